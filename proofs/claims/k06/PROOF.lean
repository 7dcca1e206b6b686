import PyProof.Rows.All
import Wide.All
import OpenK.AllK
import Wide.FinOn
import HandS.ForMost
import HandS.Defaults
import HandS.More
import HandS.IsInst
import HandS.DictComp
import HandS.Zip
import HandS.TupAny
import HandS.Property
import HandS.ExcIs
import HandS.ExcField
import HandS.ExcInit
import HandS.ExcInitHot
import HandS.OwnEq
import HandS.Codes
import HandS.Walk
import HandS.HeadHook1
import HandS.HeadHook2
import KE.GoesMore
import KE.GoesEnum
import PyProof.Draws
import PyProof.EnumMake
import KE.SortData
import KE.KItemsList
import HandS.DictTup
import HandS.ListItems
import KE.KSuper
import KE.KExcSuper
import HandS.Exc
import HandS.Ends
import PyProof.FString
import HandS.ExcCtx
import HandS.HeadHook4
import KE.KIsAll
import HandS.HotCalls
import KE.KEqNest
import PyProof.InstEq
import HandS.Style
import HandS.Head0
import HandS.Head1
import HandS.Head2
import HandS.HeadEnd
import HandS.HeadHook3
import PySem.Challenge.RW_heapshares_k06_first_arrivals_and_lost
set_option Elab.async false
set_option linter.all false
set_option maxRecDepth 100000
set_option maxHeartbeats 0
section
/-! Law-independent layer: calls packed, steps of readings -/
namespace L3
open PySem PySem.Spec PyProof.Rows L2
abbrev St := L2.St
/-! ### calls, packed -/
section
variable (P : Program) (w : World) (K : PySem.W.Frag) (mg : Str → Option Value) (base : Heap) (CX : CXT) (k : Nat)
structure Cal (x : Str) (ps : List Str) (sp : Sp) : Prop where
  ok : ∃ f fd, FnOk P w K mg base CX k f fd ps sp ∧ mg x = some (.ref f) ∧ PySem.W.keepIn K (.ref f) = true ∧ Binds K fd ps []
structure Met (C : Addr) (m : Str) (ps : List Str) (sp : Sp) : Prop where
  ok : ∃ f fd, FnOk P w K mg base CX k f fd ps sp ∧ Meth K C m f ∧ Binds K fd ps []
structure Mak (x : Str) (C : Addr) (ps : List Str) (sp : Sp) : Prop where
  ok : ∃ f fd, FnOk P w K mg base CX k f fd ps sp ∧ Mk K C f ∧ mg x = some (.ref C) ∧ Binds K fd ps []
end
section
variable {X : Cx} {CX : CXT} {k j : Nat} {x m : Str} {C : Addr} {ps : List Str} {sp : Sp} {E : XK} {p pos apos : Pos} {e o : Expr} {es : List Expr} {ta : TE} {t : TA}
theorem pe_cal (c : Cal X.prog X.w X.K X.mg X.base CX k x ps sp) (hr : Room j X.A) (hk : k ≤ j) (hg : Gl X x) (hx : Passes CX X E) (ha : PA X (e :: es) t)
    (hdb : (x == ("__debug__" : Str)) = false := by decide) (he : starEach (e :: es) X.env = (false, eval e X.env) :: starEach es X.env := by rfl) (hpl : (backTo pos (starEach es X.env)).any (·.1) = false := by rfl) :
    PE X (.Call (.Name x p) (e :: es) [] pos) (tCall sp [] E t) := by
  obtain ⟨f, fd, F, hm, kp, hb⟩ := c.ok
  exact pe_call F (hr.mono hk) hg hm kp hb .nil hx ha hdb he hpl
theorem pe_mak (c : Mak X.prog X.w X.K X.mg X.base CX k x C ps sp) (hr : Room j X.A) (hk : k + 1 ≤ j) (hg : Gl X x) (hx : Passes CX X E) (ha : PA X (e :: es) t)
    (hdb : (x == ("__debug__" : Str)) = false := by decide) (he : starEach (e :: es) X.env = (false, eval e X.env) :: starEach es X.env := by rfl) (hpl : (backTo pos (starEach es X.env)).any (·.1) = false := by rfl) :
    PE X (.Call (.Name x p) (e :: es) [] pos) (tMake C sp [] E t) := by
  obtain ⟨f, fd, F, M, hm, hb⟩ := c.ok
  exact pe_make M F (hr.mono hk) hg hm hb .nil hx ha hdb he hpl
theorem pe_met {pl : Sem Bool} (he : PE X o ta) (c : Cls X.K C) (cm : Met X.prog X.w X.K X.mg X.base CX k C m ps sp) (hr : Room j X.A) (hk : k ≤ j) (hx : Passes CX X E) (ha : PA X (e :: es) t)
    (hst : starEach (e :: es) X.env = (false, eval e X.env) :: starEach es X.env := by rfl) (hpl : (backTo pos (starEach es X.env)).any (·.1) = false := by rfl)
    (ht : eval (.Call (.Attribute o m apos) (e :: es) [] pos) X.env = (do
      let ov ← eval o X.env
      standAt apos.atName
      let (f, first) ← holding [ov] (getMethod ov m pl)
      callWith pos f first (backTo pos (starEach (e :: es) X.env)) (backToKw pos (keywordEach [] X.env))) := by rfl) :
    PE X (.Call (.Attribute o m apos) (e :: es) [] pos) (tMeth C m sp [] E ta t) := by
  obtain ⟨f, fd, F, M, hb⟩ := cm.ok
  exact pe_meth he c M F (hr.mono hk) hb .nil hx ha hst hpl ht
end
/-- a built-in type as a value -/
theorem pe_ty {X : Cx} {x : Str} {n : String} {pos : Pos} (hg : Gl X x) (hm : X.mg x = none) (hv : bootBuiltins x = some (.type n)) (hn : x ≠ "__name__" := by decide) (hd : (x == ("__debug__" : Str)) = false := by decide) : PE X (.Name x pos) (tC (.ty n)) := pe_bltn hg hm hv rfl hn hd
/-- a def of the text keeps its promise -/
theorem cal_mk {P : Program} {w : World} {K : PySem.W.Frag} {mg : Str → Option Value} {base : Heap} {CX : CXT} {k : Nat} {x qual : Str} {params : Arguments} {body : List Stmt} {scope : Scope} {N ps : List Str} {sp : Sp} {f : Addr}
    (F : ∃ fd, FunD K x qual params body scope [] [] f fd) (hm : mg x = some (.ref f)) (S : FnScope N ps scope)
    (hb : ∀ (kV doc pm : Value) (an : Option Addr) (cdv ct : Value) (us : List Value), us.length = ps.length → bindArgs (PySem.W.fnOf x qual params body scope .none kV doc pm an cdv ct) ⟨us, []⟩ = pure (ps.zip us))
    (len : ∀ vs H Q E, sp vs H Q E → vs.length = ps.length)
    (hbody : ∀ (f : Addr) (cdv : Value) (A : Around) (outer : List Env) (s : Shared) (H : Hp) (vs : List V) (Q : VK) (E : XK), Room k (A.deeper (envOfC qual scope s.heap.objs.size f cdv)) → sp vs H Q E →
      ∃ t, PSs (cxOf CX P w K mg base N qual scope f cdv A outer s H E).nox body t ∧ t { nx := fun _ H' => Q .non H', rt := Q } (start N vs) H) : Cal P w K mg base CX (k + 1) x ps sp := by
  obtain ⟨fd, F⟩ := F
  exact ⟨f, fd, F.ok S len (fun cdv A outer s H vs Q E hr h => let ⟨t, ht, q⟩ := hbody f cdv A outer s H vs Q E hr h; ⟨t, ht.nox, q⟩), hm, F.kp, F.bindsN hb⟩
/-- .. one that may raise -/
theorem cal_mkX {P : Program} {w : World} {K : PySem.W.Frag} {mg : Str → Option Value} {base : Heap} {CX : CXT} {k : Nat} {x qual : Str} {params : Arguments} {body : List Stmt} {scope : Scope} {N ps : List Str} {sp : Sp} {f : Addr}
    (F : ∃ fd, FunD K x qual params body scope [] [] f fd) (hm : mg x = some (.ref f)) (S : FnScope N ps scope)
    (hb : ∀ (kV doc pm : Value) (an : Option Addr) (cdv ct : Value) (us : List Value), us.length = ps.length → bindArgs (PySem.W.fnOf x qual params body scope .none kV doc pm an cdv ct) ⟨us, []⟩ = pure (ps.zip us))
    (len : ∀ vs H Q E, sp vs H Q E → vs.length = ps.length)
    (hbody : ∀ (f : Addr) (cdv : Value) (A : Around) (outer : List Env) (s : Shared) (H : Hp) (vs : List V) (Q : VK) (E : XK), Room k (A.deeper (envOfC qual scope s.heap.objs.size f cdv)) → sp vs H Q E →
      ∃ t, PSs (cxOf CX P w K mg base N qual scope f cdv A outer s H E) body t ∧ t { nx := fun _ H' => Q .non H', rt := Q } (start N vs) H) : Cal P w K mg base CX (k + 1) x ps sp := by
  obtain ⟨fd, F⟩ := F
  exact ⟨f, fd, F.ok S len (fun cdv A outer s H vs Q E hr h => hbody f cdv A outer s H vs Q E hr h), hm, F.kp, F.bindsN hb⟩
/-- a def of the text keeps its promise -/
theorem met_mk {P : Program} {w : World} {K : PySem.W.Frag} {mg : Str → Option Value} {base : Heap} {CX : CXT} {k : Nat} {x qual : Str} {C : Addr} {params : Arguments} {body : List Stmt} {scope : Scope} {N ps : List Str} {sp : Sp} {f : Addr}
    (F : ∃ fd, FunD K x qual params body scope [] [] f fd) (hm : Meth K C x f) (S : FnScope N ps scope)
    (hb : ∀ (kV doc pm : Value) (an : Option Addr) (cdv ct : Value) (us : List Value), us.length = ps.length → bindArgs (PySem.W.fnOf x qual params body scope .none kV doc pm an cdv ct) ⟨us, []⟩ = pure (ps.zip us))
    (len : ∀ vs H Q E, sp vs H Q E → vs.length = ps.length)
    (hbody : ∀ (f : Addr) (cdv : Value) (A : Around) (outer : List Env) (s : Shared) (H : Hp) (vs : List V) (Q : VK) (E : XK), Room k (A.deeper (envOfC qual scope s.heap.objs.size f cdv)) → sp vs H Q E →
      ∃ t, PSs (cxOf CX P w K mg base N qual scope f cdv A outer s H E).nox body t ∧ t { nx := fun _ H' => Q .non H', rt := Q } (start N vs) H) : Met P w K mg base CX (k + 1) C x ps sp := by
  obtain ⟨fd, F⟩ := F
  exact ⟨f, fd, F.ok S len (fun cdv A outer s H vs Q E hr h => let ⟨t, ht, q⟩ := hbody f cdv A outer s H vs Q E hr h; ⟨t, ht.nox, q⟩), hm, F.bindsN hb⟩
/-- .. one that may raise -/
theorem met_mkX {P : Program} {w : World} {K : PySem.W.Frag} {mg : Str → Option Value} {base : Heap} {CX : CXT} {k : Nat} {x qual : Str} {C : Addr} {params : Arguments} {body : List Stmt} {scope : Scope} {N ps : List Str} {sp : Sp} {f : Addr}
    (F : ∃ fd, FunD K x qual params body scope [] [] f fd) (hm : Meth K C x f) (S : FnScope N ps scope)
    (hb : ∀ (kV doc pm : Value) (an : Option Addr) (cdv ct : Value) (us : List Value), us.length = ps.length → bindArgs (PySem.W.fnOf x qual params body scope .none kV doc pm an cdv ct) ⟨us, []⟩ = pure (ps.zip us))
    (len : ∀ vs H Q E, sp vs H Q E → vs.length = ps.length)
    (hbody : ∀ (f : Addr) (cdv : Value) (A : Around) (outer : List Env) (s : Shared) (H : Hp) (vs : List V) (Q : VK) (E : XK), Room k (A.deeper (envOfC qual scope s.heap.objs.size f cdv)) → sp vs H Q E →
      ∃ t, PSs (cxOf CX P w K mg base N qual scope f cdv A outer s H E) body t ∧ t { nx := fun _ H' => Q .non H', rt := Q } (start N vs) H) : Met P w K mg base CX (k + 1) C x ps sp := by
  obtain ⟨fd, F⟩ := F
  exact ⟨f, fd, F.ok S len (fun cdv A outer s H vs Q E hr h => hbody f cdv A outer s H vs Q E hr h), hm, F.bindsN hb⟩
/-- a def of the text keeps its promise -/
theorem mak_mk {P : Program} {w : World} {K : PySem.W.Frag} {mg : Str → Option Value} {base : Heap} {CX : CXT} {k : Nat} {x xc qual : Str} {C : Addr} {params : Arguments} {body : List Stmt} {scope : Scope} {N ps : List Str} {sp : Sp} {f : Addr}
    (F : ∃ fd, FunD K x qual params body scope [] [] f fd) (hm : Mk K C f) (hc : mg xc = some (.ref C)) (S : FnScope N ps scope)
    (hb : ∀ (kV doc pm : Value) (an : Option Addr) (cdv ct : Value) (us : List Value), us.length = ps.length → bindArgs (PySem.W.fnOf x qual params body scope .none kV doc pm an cdv ct) ⟨us, []⟩ = pure (ps.zip us))
    (len : ∀ vs H Q E, sp vs H Q E → vs.length = ps.length)
    (hbody : ∀ (f : Addr) (cdv : Value) (A : Around) (outer : List Env) (s : Shared) (H : Hp) (vs : List V) (Q : VK) (E : XK), Room k (A.deeper (envOfC qual scope s.heap.objs.size f cdv)) → sp vs H Q E →
      ∃ t, PSs (cxOf CX P w K mg base N qual scope f cdv A outer s H E).nox body t ∧ t { nx := fun _ H' => Q .non H', rt := Q } (start N vs) H) : Mak P w K mg base CX (k + 1) xc C ps sp := by
  obtain ⟨fd, F⟩ := F
  exact ⟨f, fd, F.ok S len (fun cdv A outer s H vs Q E hr h => let ⟨t, ht, q⟩ := hbody f cdv A outer s H vs Q E hr h; ⟨t, ht.nox, q⟩), hm, hc, F.bindsN hb⟩
theorem hu64 {A : Around} {k : Nat} (hr : Room k A) : A.units + 64 < cLine := Nat.lt_of_le_of_lt (Nat.le_refl _) hr.units
/-! ### heaps -/
def Ex (H H' : Hp) : Prop := ∀ a o, H a = some o → H' a = some o
theorem Ex.refl (H : Hp) : Ex H H := fun _ _ h => h
theorem Ex.trans {H H1 H2 : Hp} (a : Ex H H1) (b : Ex H1 H2) : Ex H H2 := fun x o h => b x o (a x o h)
theorem Ex.new {H : Hp} {p : Addr} {o : HO} (h : H p = none) : Ex H (upd H p o) := fun a u e => by
  rw [upd_ne (ne_of_none e h)]
  exact e
theorem Ex.get {H H' : Hp} (e : Ex H H') {a : Addr} {o : HO} (h : H a = some o) : H' a = some o := e a o h
theorem Ex.sqT {K : PySem.W.Frag} {H H' : Hp} (e : Ex H H') {a : Addr} {xs : List V} (h : SqT K H a xs) : SqT K H' a xs := by
  rcases h with (h | ⟨o, h⟩) | h
  · exact .inl (.inl (e _ _ h))
  · exact .inl (.inr ⟨o, e _ _ h⟩)
  · exact .inr h
theorem Ex.sqL {K : PySem.W.Frag} {H H' : Hp} (e : Ex H H') {a : Addr} {xs : List V} (h : SqL K H a xs) : SqL K H' a xs := by
  rcases h with (h | ⟨o, h⟩) | h
  · exact .inl (.inl (e _ _ h))
  · exact .inl (.inr ⟨o, e _ _ h⟩)
  · exact .inr h
theorem Ex.none {H H' : Hp} (e : Ex H H') {a : Addr} (h : H' a = Option.none) : H a = Option.none := by
  cases q : H a with
  | none => rfl
  | some o =>
    rw [e a o q] at h
    cases h
/-- all but what stands at l -/
def ExB (l : Addr) (H H' : Hp) : Prop := ∀ a o, a ≠ l → H a = some o → H' a = some o
theorem ExB.upd {l : Addr} {H : Hp} {o : HO} : ExB l H (upd H l o) := fun a u n e => by rw [upd_ne n]; exact e
theorem ExB.of {l : Addr} {H H' : Hp} (e : Ex H H') : ExB l H H' := fun a o _ h => e a o h
theorem ExB.trans {l : Addr} {H H1 H2 : Hp} (a : ExB l H H1) (b : ExB l H1 H2) : ExB l H H2 := fun x o n h => b x o n (a x o n h)
/-- what stood before l stood -/
theorem ExB.old {l : Addr} {H0 H H' : Hp} (e : Ex H0 H) (n : H0 l = none) (b : ExB l H H') : Ex H0 H' := fun a o h => b a o (ne_of_none h n) (e a o h)
/-! ### built-ins under a name -/
section
variable {X : Cx}
def rLen (K : PySem.W.Frag) : List V → Hp → VK → Prop := fun xs H Q => ∃ p ys, xs = [.ref p] ∧ (SqL K H p ys ∨ SqT K H p ys) ∧ Q (.int ys.length) H
theorem cr_len : CallR X (.builtin "len") (rLen X.K) := call_len_seq
def rLenD : List V → Hp → VK → Prop := fun xs H Q => ∃ a kvs, xs = [V.ref a] ∧ H a = some (.dK kvs) ∧ Q (.int kvs.length) H
theorem cr_lenD : CallR X (.builtin "len") rLenD := call_lenD
def rLenS (K : PySem.W.Frag) : List V → Hp → VK → Prop := fun xs H Q => ∃ x n, xs = [x] ∧ LenV K x H n ∧ Q (.int n) H
theorem cr_lenS : CallR X (.builtin "len") (rLenS X.K) := call_len
def rInt : List V → Hp → VK → Prop := fun xs H Q => (∃ i, xs = [.int i] ∧ Q (.int i) H) ∨ ∃ k, xs = [.bl k] ∧ Q (.int (if k then 1 else 0)) H
theorem cr_int : CallR X (.type "int") rInt := call_int1
def rAbs : List V → Hp → VK → Prop := fun xs H Q => ∃ i, xs = [.int i] ∧ Q (.int (if i < 0 then -i else i)) H
theorem cr_abs : CallR X (.builtin "abs") rAbs := call_abs
def rMax2 : List V → Hp → VK → Prop := fun xs H Q => ∃ i j, xs = [.int i, .int j] ∧ Q (.int (if j > i then j else i)) H
theorem cr_max2 (hc : X.calm = true) : CallR X (.builtin "max") rMax2 := call_max2 hc
def rMin2 : List V → Hp → VK → Prop := fun xs H Q => ∃ i j, xs = [.int i, .int j] ∧ Q (.int (if j < i then j else i)) H
theorem cr_min2 (hc : X.calm = true) : CallR X (.builtin "min") rMin2 := call_min2 hc
def rTupOf (K : PySem.W.Frag) : List V → Hp → VK → Prop := fun xs H Q => ∃ p ys, xs = [.ref p] ∧ ((SqL K H p ys ∧ ∀ l, H l = none → Q (.ref l) (upd H l (.tup ys))) ∨ (SqT K H p ys ∧ Q (.ref p) H))
theorem cr_tupOf : CallR X (.type "tuple") (rTupOf X.K) := call_tuple_of
def rDictOf : List V → Hp → VK → Prop := fun xs H Q => ∃ (a : Addr) (kvs : List (Key × V)), xs = [.ref a] ∧ Rd H a (.dK kvs) ∧ ∀ p, H p = none → Q (.ref p) (upd H p (.dK kvs))
theorem cr_dictOf : CallR X (.type "dict") rDictOf := call_dictD
def rAddI : R2 := rI0 fun i j => .int (i + j)
def rSubI : R2 := rI0 fun i j => .int (i - j)
def rMulI : R2 := rI CMul fun i j => .int (i * j)
def rModI : R2 := rI (fun _ j => 0 < j) fun i j => .int (i % j)
def rDivI : R2 := rI CDiv fun i j => .int (i / j)
def rPowI : R2 := rI CPow fun i j => .int (i ^ j.toNat)
def rLtI : R2 := rI0 fun i j => .bl (decide (i < j))
def rLeI : R2 := rI0 fun i j => .bl (decide (i ≤ j))
def rGtI : R2 := rI0 fun i j => .bl (decide (j < i))
def rGeI : R2 := rI0 fun i j => .bl (decide (j ≤ i))
def rAddS : R2 := fun x y H Q => ∃ i j, x = .str i ∧ y = .str j ∧ i.length + j.length ≤ sizeLine ∧ Q (.str (i ++ j)) H
theorem o_add : OpR X (binaryOp .Add) rAddI := op_add
theorem o_sub : OpR X (binaryOp .Sub) rSubI := op_sub
theorem o_mul : OpR X (binaryOp .Mult) rMulI := op_mul
theorem o_mod : OpR X (binaryOp .Mod) rModI := op_mod
theorem o_fdiv : OpR X (binaryOp .FloorDiv) rDivI := op_fdiv
theorem o_pow : OpR X (binaryOp .Pow) rPowI := op_pow
theorem o_lt : OpR X (compareOp .Lt) rLtI := op_lt
theorem o_le : OpR X (compareOp .LtE) rLeI := op_le
theorem o_gt : OpR X (compareOp .Gt) rGtI := op_gt
theorem o_ge : OpR X (compareOp .GtE) rGeI := op_ge
theorem o_addS : OpR X (binaryOp .Add) rAddS := op_add_str
def rInS : R2 := fun x y H Q => ∃ (c : Nat) (z : Str), x = .str ⟨#[c]⟩ ∧ y = .str z ∧ Q (.bl (decide (c ∈ z.cps.toList))) H
theorem o_inS : OpR X (compareOp .In) rInS := op_in_sign
def rNotInS : R2 := fun x y H Q => ∃ (c : Nat) (z : Str), x = .str ⟨#[c]⟩ ∧ y = .str z ∧ Q (.bl (!decide (c ∈ z.cps.toList))) H
theorem o_notInS : OpR X (compareOp .NotIn) rNotInS := op_notIn_sign
end
/-! ### steps of readings -/
/-- a new object -/
def NewO (Q : VK) (o : HO) (H : Hp) : Prop := ∀ p, H p = none → Q (.ref p) (upd H p o)
section
variable {K : PySem.W.Frag} {σ : L2.St} {H : Hp} {Q : VK} {D : Ends} {v x y : V} {i j : Int} {a p : Addr} {xs : List V}
theorem k_seq {t u : TS} (h : t { D with nx := u D } σ H) : tSeq t u D σ H := h
theorem k_nx (h : D.nx σ H) : tNext D σ H := h
theorem k_var {n : Nat} (h : σ[n]? = some (some v)) (q : Q v H) : tVar n σ H Q := ⟨v, h, q⟩
theorem k_c (q : Q v H) : tC v σ H Q := q
theorem k_op {r : R2} {ta tb : TE} (h : ta σ H fun x H1 => tb σ H1 fun y H2 => r x y H2 Q) : tOp r ta tb σ H Q := h
theorem k_un {r : V → Hp → VK → Prop} {ta : TE} (h : ta σ H fun x H1 => r x H1 Q) : tUn r ta σ H Q := h
theorem k_add (q : Q (.int (i + j)) H) : rAddI (.int i) (.int j) H Q := ⟨i, j, rfl, rfl, q⟩
theorem k_sub (q : Q (.int (i - j)) H) : rSubI (.int i) (.int j) H Q := ⟨i, j, rfl, rfl, q⟩
theorem k_mul (h : CMul i j) (q : Q (.int (i * j)) H) : rMulI (.int i) (.int j) H Q := ⟨i, j, rfl, rfl, h, q⟩
theorem k_mod (h : 0 < j) (q : Q (.int (i % j)) H) : rModI (.int i) (.int j) H Q := ⟨i, j, rfl, rfl, h, q⟩
theorem k_div (h : CDiv i j) (q : Q (.int (i / j)) H) : rDivI (.int i) (.int j) H Q := ⟨i, j, rfl, rfl, h, q⟩
theorem k_pow (h : CPow i j) (q : Q (.int (i ^ j.toNat)) H) : rPowI (.int i) (.int j) H Q := ⟨i, j, rfl, rfl, h, q⟩
theorem k_lt (q : Q (.bl (decide (i < j))) H) : rLtI (.int i) (.int j) H Q := ⟨i, j, rfl, rfl, q⟩
theorem k_le (q : Q (.bl (decide (i ≤ j))) H) : rLeI (.int i) (.int j) H Q := ⟨i, j, rfl, rfl, q⟩
theorem k_gt (q : Q (.bl (decide (j < i))) H) : rGtI (.int i) (.int j) H Q := ⟨i, j, rfl, rfl, q⟩
theorem k_ge (q : Q (.bl (decide (j ≤ i))) H) : rGeI (.int i) (.int j) H Q := ⟨i, j, rfl, rfl, q⟩
theorem k_u {g : Int → V} (q : Q (g i) H) : rU g (.int i) H Q := ⟨i, rfl, q⟩
theorem k_addS {z y : Str} (h : z.length + y.length ≤ sizeLine) (q : Q (.str (z ++ y)) H) : rAddS (.str z) (.str y) H Q := ⟨z, y, rfl, rfl, h, q⟩
theorem k_inS {c : Nat} {z : Str} (q : Q (.bl (decide (c ∈ z.cps.toList))) H) : rInS (.str ⟨#[c]⟩) (.str z) H Q := ⟨c, z, rfl, rfl, q⟩
theorem k_abs (q : Q (.int (if i < 0 then -i else i)) H) : rAbs [.int i] H Q := ⟨i, rfl, q⟩
theorem k_max2 (q : Q (.int (if j > i then j else i)) H) : rMax2 [.int i, .int j] H Q := ⟨i, j, rfl, q⟩
theorem k_min2 (q : Q (.int (if j < i then j else i)) H) : rMin2 [.int i, .int j] H Q := ⟨i, j, rfl, q⟩
theorem k_int (q : Q (.int i) H) : rInt [.int i] H Q := .inl ⟨i, rfl, q⟩
theorem k_intB {b : Bool} (q : Q (.int (if b then 1 else 0)) H) : rInt [.bl b] H Q := .inr ⟨b, rfl, q⟩
theorem k_len (h : SqL K H p xs ∨ SqT K H p xs) (q : Q (.int xs.length) H) : rLen K [.ref p] H Q := ⟨p, xs, rfl, h, q⟩
theorem k_lenD {kvs : List (Key × V)} (h : H p = some (.dK kvs)) (q : Q (.int kvs.length) H) : rLenD [.ref p] H Q := ⟨p, kvs, rfl, h, q⟩
theorem k_lenS {z : Str} (h : z.length ≤ sizeLine) (q : Q (.int z.length) H) : rLenS K [.str z] H Q := ⟨.str z, z.length, rfl, ⟨h, rfl⟩, q⟩
theorem k_tupL (h : SqL K H p xs) (q : ∀ l H1, H l = none → Ex H H1 → H1 l = some (.tup xs) → Q (.ref l) H1) : rTupOf K [.ref p] H Q := ⟨p, xs, rfl, .inl ⟨h, fun l n => q l _ n (Ex.new n) upd_same⟩⟩
theorem k_tupT (h : SqT K H p xs) (q : Q (.ref p) H) : rTupOf K [.ref p] H Q := ⟨p, xs, rfl, .inr ⟨h, q⟩⟩
theorem k_dictOf {kvs : List (Key × V)} (h : Rd H p (.dK kvs)) (q : ∀ l H1, H l = none → Ex H H1 → H1 l = some (.dK kvs) → Q (.ref l) H1) : rDictOf [.ref p] H Q := ⟨p, kvs, rfl, h, fun l n => q l _ n (Ex.new n) upd_same⟩
theorem k_append (h : H p = some (.lst xs)) (hz : xs.length < sizeLine) (q : ∀ H1, ExB p H H1 → H1 p = some (.lst (xs ++ [v])) → Q .non H1) : rAppend (.ref p) [v] H Q := ⟨p, xs, v, rfl, rfl, h, hz, q _ ExB.upd upd_same⟩
theorem k_pop (h : H p = some (.lst xs)) (hl : xs[xs.length - 1]? = some v) (q : ∀ H1, ExB p H H1 → H1 p = some (.lst xs.dropLast) → Q v H1) : rPop (.ref p) [] H Q := ⟨p, xs, v, rfl, rfl, h, hl, q _ ExB.upd upd_same⟩
theorem k_reverse (h : H p = some (.lst xs)) (q : ∀ H1, ExB p H H1 → H1 p = some (.lst xs.reverse) → Q .non H1) : rReverse (.ref p) [] H Q := ⟨p, xs, rfl, rfl, h, q _ ExB.upd upd_same⟩
theorem k_cat {b : Addr} {ys : List V} (h : H p = some (.lst xs)) (h2 : H b = some (.lst ys)) (hz : xs.length + ys.length ≤ sizeLine) (q : ∀ l H1, H l = none → Ex H H1 → H1 l = some (.lst (xs ++ ys)) → Q (.ref l) H1) : rCat (.ref p) (.ref b) H Q :=
  ⟨p, b, xs, ys, rfl, rfl, h, h2, hz, fun l n => q l _ n (Ex.new n) upd_same⟩
theorem k_tyL (h : SqL K H p xs) : tyV K "list" (.ref p) H := .inl ⟨rfl, xs, h⟩
theorem k_tyA {B : Prop} (h : SqL K H p xs) (b : B) : tyV K "list" (.ref p) H ∧ B := ⟨k_tyL h, b⟩
/-- (a, b) = a pair -/
theorem k_gTup {n : Nat} {t : TGs} {R : L2.St → Hp → Prop} (h : SqT K H p xs) (hl : xs.length = n) (q : t xs σ H R) : gTup K n t (.ref p) σ H R := ⟨p, xs, rfl, h, hl, q⟩
theorem k_gCons {t : TG} {u : TGs} {vs : List V} {R : L2.St → Hp → Prop} (h : t v σ H fun σ' H' => u vs σ' H' R) : gCons t u (v :: vs) σ H R := ⟨v, vs, rfl, h⟩
theorem k_gNil {R : L2.St → Hp → Prop} (h : R σ H) : gNil [] σ H R := ⟨rfl, h⟩
theorem k_par {n m : Nat} {ta : TA} (h : ta σ H fun vs H1 => ∃ v w, vs = [v, w] ∧ D.nx ((σ.set n (some v)).set m (some w)) H1) : tPar n m ta D σ H := h
theorem k_parE {R : V → V → Prop} (h : R x y) : ∃ v w, [x, y] = [v, w] ∧ R v w := ⟨x, y, rfl, h⟩
theorem k_in {neg : Bool} (h : SqL K H p xs ∨ SqT K H p xs) (hx : flatV v = true) (ha : xs.all flatV = true) (q : Q (.bl (if neg then !inV v xs else inV v xs)) H) : rIn K neg v (.ref p) H Q := ⟨p, xs, rfl, h, hx, ha, q⟩
theorem k_dnew (q : ∀ l H1, H l = none → Ex H H1 → H1 l = some (.dK []) → Q (.ref l) H1) : tDNewK σ H Q := fun l n => q l _ n (Ex.new n) upd_same
theorem k_dput {td ty tv : TE} (h : tv σ H fun v H1 => td σ H1 fun x H2 => ty σ H2 fun y H3 => ∃ a H4, x = .ref a ∧ DPut H3 a y v H4 ∧ D.nx σ H4) : sDPut td ty tv D σ H := h
theorem k_dputE {kvs : List (Key × V)} {k : Key} {y v : V} {R : Hp → Prop} (hy : y = kV k) (h : H p = some (.dK kvs)) (hz : kvs.length < sizeLine) (q : ∀ H1, ExB p H H1 → H1 p = some (.dK (putK kvs k v)) → R H1) : ∃ a H4, V.ref p = .ref a ∧ DPut H a y v H4 ∧ R H4 := by
  subst hy
  exact ⟨p, _, rfl, DPut.k h hz, q _ ExB.upd upd_same⟩
theorem k_dget {td ty : TE} (h : td σ H fun x H1 => ty σ H1 fun y H2 => ∃ a v, x = .ref a ∧ DGet H2 a y (some v) ∧ Q v H2) : tDGet td ty σ H Q := h
theorem DGet.rd {H : Hp} {a : Addr} {kvs : List (Key × V)} {k : Key} (e : Rd H a (.dK kvs)) : DGet H a (kV k) (valV kvs k) := .inl ⟨kvs, k, e, rfl, rfl⟩
theorem k_dgetE {kvs : List (Key × V)} {k : Key} {y v : V} {R : V → Prop} (hy : y = kV k) (h : Rd H p (.dK kvs)) (hv : valV kvs k = some v) (q : R v) : ∃ a v, V.ref p = .ref a ∧ DGet H a y (some v) ∧ R v := by
  subst hy
  exact ⟨p, v, rfl, by rw [← hv]; exact DGet.rd h, q⟩
theorem k_dget1 {td ty : TE} (h : td σ H fun x H1 => ∃ a, x = .ref a ∧ IsD H1 a ∧ ty σ H1 fun y H2 => ∃ o, DGet H2 a y o ∧ Q (o.getD .non) H2) : tDGet1 td ty σ H Q := h
theorem k_din {td ty : TE} (h : ty σ H fun y H1 => td σ H1 fun x H2 => ∃ a o, x = .ref a ∧ DGet H2 a y o ∧ Q (.bl o.isSome) H2) : tDIn ty td σ H Q := h
theorem k_dnotin {td ty : TE} (h : ty σ H fun y H1 => td σ H1 fun x H2 => ∃ a o, x = .ref a ∧ DGet H2 a y o ∧ Q (.bl (!o.isSome)) H2) : tDNotIn ty td σ H Q := h
theorem k_dinE {kvs : List (Key × V)} {k : Key} {y : V} {R : Option V → Prop} (hy : y = kV k) (h : Rd H p (.dK kvs)) (q : R (valV kvs k)) : ∃ a o, V.ref p = .ref a ∧ DGet H a y o ∧ R o := by
  subst hy
  exact ⟨p, _, rfl, DGet.rd h, q⟩
theorem k_dget1E {kvs : List (Key × V)} {B : Prop} (h : Rd H p (.dK kvs)) (b : B) : IsD H p ∧ B := ⟨.inl ⟨kvs, h⟩, b⟩
theorem k_dpop1 {td ty : TE} (h : td σ H fun x H1 => ∃ a, x = .ref a ∧ IsD H1 a ∧ ty σ H1 fun y H2 => ∃ kvs k v, H2 a = some (.dK kvs) ∧ y = kV k ∧ valV kvs k = some v ∧ Q v (upd H2 a (.dK (dropK kvs k)))) : tDPop1 td ty σ H Q := h
theorem k_slice {r : V → Option Int → Option Int → Hp → VK → Prop} {te : TE} {tl th : TO} (h : te σ H fun x H1 => tl σ H1 fun l H2 => th σ H2 fun u H3 => r x l u H3 Q) : tSl r te tl th σ H Q := h
theorem k_noPart {R : Option Int → Hp → Prop} (q : R none H) : tNoPart σ H R := q
theorem k_part {t : TE} {R : Option Int → Hp → Prop} (h : t σ H fun x H1 => ∃ i, x = .int i ∧ R (some i) H1) : tPart t σ H R := h
theorem k_partE {R : Int → Prop} (h : R i) : ∃ k, V.int i = .int k ∧ R k := ⟨i, rfl, h⟩
theorem k_slL {lo hi : Option Int} (h : SqL K H p xs) (q : ∀ l H1, H l = none → Ex H H1 → H1 l = some (.lst (cutV xs lo hi)) → Q (.ref l) H1) : rSlL K (.ref p) lo hi H Q := ⟨p, xs, rfl, h, fun l n => q l _ n (Ex.new n) upd_same⟩
theorem iteNT {A B : Prop} (h : B) : if (!true) = true then A else B := h
theorem iteNF {A B : Prop} (h : A) : if (!false) = true then A else B := h
theorem iteOn {A B : Prop} (h : B) : if (none : Option V).isSome = true then A else B := h
theorem iteOs {v : V} {A B : Prop} (h : A) : if (some v : Option V).isSome = true then A else B := h
theorem iteNOn {A B : Prop} (h : A) : if (!(none : Option V).isSome) = true then A else B := h
theorem iteNOs {v : V} {A B : Prop} (h : B) : if (!(some v : Option V).isSome) = true then A else B := h
/-- what a for asks -/
def ForK (J : It) (g : TG) (tb : TS) (D : Ends) (σ : L2.St) (H1 : Hp) : Prop := ∃ W : Nat → Nat → L2.St → Hp → Prop, (∃ m, W 0 m σ H1) ∧ ∀ i m σ H, W i m σ H →
  (J.stop i H ∧ D.nx σ H) ∨ (J.go i H ∧ ∃ N : L2.St → Hp → Prop, (∀ σ' H', N σ' H' → ∃ m', m' < m ∧ W (i + 1) m' σ' H') ∧ ∀ x H', J.yld i H x H' → g x σ H' fun σ2 H2 => tb { D with nx := N, ct := N, bk := D.nx } σ2 H2)
theorem k_for {wi : TI} {g : TG} {tb : TS} (h : wi σ H fun J H1 => ForK J g tb D σ H1) : tFor wi g tb D σ H := h
theorem k_rng1 {ta : TA} {R : It → Hp → Prop} (h : ta σ H fun vs H1 => ∃ j : Int, vs = [.int j] ∧ -(2 ^ 62) ≤ j ∧ j < 2 ^ 62 ∧ R (Itr 0 j.toNat) H1) : iRng1 ta σ H R := h
theorem k_rng1E {R : Int → Prop} (h1 : -(2 ^ 62) ≤ i) (h2 : i < 2 ^ 62) (h : R i) : ∃ j : Int, [V.int i] = [.int j] ∧ -(2 ^ 62) ≤ j ∧ j < 2 ^ 62 ∧ R j := ⟨i, rfl, h1, h2, h⟩
theorem k_iList {tl : TE} {R : It → Hp → Prop} (h : tl σ H fun x H1 => ∃ a, x = .ref a ∧ (∃ xs, SqL K H1 a xs) ∧ R (Itl K a) H1) : iList K tl σ H R := h
theorem k_iListE {R : Addr → Prop} (h : SqL K H p xs) (q : R p) : ∃ a, V.ref p = .ref a ∧ (∃ xs, SqL K H a xs) ∧ R a := ⟨p, rfl, ⟨xs, h⟩, q⟩
theorem k_iTup {tl : TE} {R : It → Hp → Prop} (h : tl σ H fun x H1 => ∃ a, x = .ref a ∧ (∃ xs, SqT K H1 a xs) ∧ R (Itt K a) H1) : iTup K tl σ H R := h
theorem k_iTupE {R : Addr → Prop} (h : SqT K H p xs) (q : R p) : ∃ a, V.ref p = .ref a ∧ (∃ xs, SqT K H a xs) ∧ R a := ⟨p, rfl, ⟨xs, h⟩, q⟩
theorem k_zip {ta : TA} {R : It → Hp → Prop} (h : ta σ H fun vs H1 => ∃ a b xs ys, vs = [.ref a, .ref b] ∧ ((SqL K H1 a xs ∧ SqL K H1 b ys ∧ R (Itz K a b) H1) ∨ (SqT K H1 a xs ∧ SqT K H1 b ys ∧ R (RZ.ItzT K a b) H1))) : RZ.iZipA K ta σ H R := h
theorem k_isi {x : V} {tn cn : String} {b : Bool} (ty : TyX K H x (.type tn)) (e : kitB tn cn = some b) (q : Q (.bl b) H) : rIsi K [x, .ty cn] H Q := ⟨x, .ty cn, _, _, b, rfl, .ty cn, ty, kit_ty e, q⟩
theorem tyX_L (h : SqL K H p xs) : TyX K H (.ref p) (.type "list") := by
  rcases h with (h | ⟨o, h⟩) | ⟨o, its, n, h, c, _⟩
  · exact .base (.lst h)
  · exact .base (.frz h)
  · exact .kList h c
theorem tyX_T (h : SqT K H p xs) : TyX K H (.ref p) (.type "tuple") := by
  rcases h with (h | ⟨o, h⟩) | ⟨o, its, n, h, c, _⟩
  · exact .base (.tup h)
  · exact .fTuple h
  · exact .kTuple h c
/-! data as trees -/
mutual
theorem Dp_ex {H H' : Hp} (e : Ex H H') : ∀ (d : PyData) (v : V), Dp K H v d → Dp K H' v d
  | .none, _, h => by cases h; exact .non
  | .bool b, _, h => by cases h; exact .bl b
  | .int i, _, h => by cases h; exact .int i
  | .str x, _, h => by cases h; exact .str x
  | .list ds, _, h => by
    cases h with
    | lst hs ha => exact .lst (e.sqL hs) (DpAll_ex e ds _ ha)
  | .tuple ds, _, h => by
    cases h with
    | tup hs ha => exact .tup (e.sqT hs) (DpAll_ex e ds _ ha)
  | .dict _, _, h => by cases h
theorem DpAll_ex {H H' : Hp} (e : Ex H H') : ∀ (ds : List PyData) (vs : List V), DpAll K H vs ds → DpAll K H' vs ds
  | [], _, h => by cases h; exact .nil
  | d :: ds, _, h => by
    cases h with
    | cons h1 h2 => exact .cons (Dp_ex e d _ h1) (DpAll_ex e ds _ h2)
end
theorem DpAll.length {H : Hp} : ∀ {vs : List V} {ds : List PyData}, DpAll K H vs ds → vs.length = ds.length
  | _, _, .nil => rfl
  | _, _, .cons _ t => congrArg (· + 1) (DpAll.length t)
theorem DpAll.get {H : Hp} : ∀ {vs : List V} {ds : List PyData}, DpAll K H vs ds → ∀ {n : Nat} {v : V}, vs[n]? = some v → ∃ d, ds[n]? = some d ∧ Dp K H v d
  | _, _, .nil, n, v, h => by simp at h
  | _, _, .cons a t, 0, v, h => by
    simp at h
    subst h
    exact ⟨_, rfl, a⟩
  | _, _, .cons a t, n + 1, v, h => by
    obtain ⟨d, h1, h2⟩ := DpAll.get t (n := n) (by simpa using h)
    exact ⟨d, by simpa using h1, h2⟩
mutual
/-- how many nodes -/
def wt : PyData → Nat
  | .list ds => 1 + wts ds
  | .tuple ds => 1 + wts ds
  | _ => 1
def wts : List PyData → Nat
  | [] => 0
  | d :: ds => wt d + wts ds
end
theorem wt_pos (d : PyData) : 1 ≤ wt d := by
  cases d <;> simp [wt]
theorem wts_app (a b : List PyData) : wts (a ++ b) = wts a + wts b := by
  induction a with
  | nil => simp [wts]
  | cons d ds ih => simp [wts, ih, Nat.add_assoc]
theorem wts_ge (a : List PyData) : a.length ≤ wts a := by
  induction a with
  | nil => simp [wts]
  | cons d ds ih =>
    have := wt_pos d
    simp [wts]
    omega
theorem k_yes {R : Bool → Hp → Prop} (q : R true H) : tYes σ H R := q
theorem k_retN (q : D.rt .non H) : tRetN D σ H := q
theorem k_brk (q : D.bk σ H) : tBreak D σ H := q
theorem k_eq (h : scal x y = true) (q : Q (.bl (decide (x = y))) H) : rEq x y H Q := ⟨h, q⟩
theorem k_ne (h : scal x y = true) (q : Q (.bl (!decide (x = y))) H) : rNe x y H Q := ⟨h, q⟩
theorem k_isN {ta : TE} (h : ta σ H fun x H1 => Q (.bl (decide (x = .non))) H1) : tIsN ta σ H Q := h
theorem k_notN {ta : TE} (h : ta σ H fun x H1 => Q (.bl (!decide (x = .non))) H1) : tNotN ta σ H Q := h
theorem k_ixL (h : SqL K H p xs) (hi : atI xs i = some v) (q : Q v H) : rIxL K (.ref p) (.int i) H Q := ⟨p, xs, i, v, rfl, rfl, h, hi, q⟩
theorem k_ixT (h : SqT K H p xs) (hi : atI xs i = some v) (q : Q v H) : rIxT K (.ref p) (.int i) H Q := ⟨p, xs, i, v, rfl, rfl, h, hi, q⟩
theorem k_asg {te : TE} {g : TG} (h : te σ H fun x H1 => g x σ H1 D.nx) : tAsg te g D σ H := h
theorem k_name {n : Nat} {R : L2.St → Hp → Prop} (q : R (σ.set n (some v)) H) : gName n v σ H R := q
theorem k_ret {te : TE} (h : te σ H D.rt) : tRet te D σ H := h
theorem k_drop {te : TE} (h : te σ H fun _ H1 => D.nx σ H1) : tDrop te D σ H := h
theorem k_if {c : TT} {t u : TS} (h : c σ H fun b H1 => if b = true then t D σ H1 else u D σ H1) : tIfS c t u D σ H := h
theorem k_ifE {c : TT} {ta tb : TE} (h : c σ H fun b H1 => if b = true then ta σ H1 Q else tb σ H1 Q) : tIf c ta tb σ H Q := h
theorem k_test {te : TE} {R : Bool → Hp → Prop} (h : te σ H fun x H' => ∃ k, x = .bl k ∧ R k H') : tTest te σ H R := h
theorem k_tb {te : TE} {R : Bool → Hp → Prop} (h : te σ H fun x H' => ∃ k, x = .bl k ∧ R k H') : tB te σ H R := h
theorem k_bl {b : Bool} {R : Bool → Prop} (q : R b) : ∃ k, V.bl b = .bl k ∧ R k := ⟨b, rfl, q⟩
theorem k_and {t u : TT} {R : Bool → Hp → Prop} (h : t σ H fun c H1 => if c = true then u σ H1 R else R false H1) : tAnd t u σ H R := h
theorem k_or {t u : TT} {R : Bool → Hp → Prop} (h : t σ H fun c H1 => if c = true then R true H1 else u σ H1 R) : tOr t u σ H R := h
theorem k_not {t : TT} {R : Bool → Hp → Prop} (h : t σ H fun c H1 => R (!c) H1) : tNot t σ H R := h
theorem k_chain {r r' : R2} {ta tb tc : TE} (h : ta σ H fun x H1 => tb σ H1 fun y H2 => r x y H2 fun z H3 => ∃ k, z = .bl k ∧ (if k = true then tc σ H3 fun w' H4 => r' y w' H4 Q else Q (.bl false) H3)) : tChain r r' ta tb tc σ H Q := h
theorem k_iStr {te : TE} {R : It → Hp → Prop} (h : te σ H fun v H1 => ∃ x, v = .str x ∧ R (Its x) H1) : iStr te σ H R := h
theorem k_iStrE {z : Str} {R : Str → Prop} (q : R z) : ∃ x, V.str z = .str x ∧ R x := ⟨z, rfl, q⟩
theorem k_andV {ta tb : TE} (h : ta σ H fun x H1 => ∃ c, x = .bl c ∧ if c = true then tb σ H1 Q else Q (.bl false) H1) : tAndV ta tb σ H Q := h
theorem k_orV {ta tb : TE} (h : ta σ H fun x H1 => ∃ c, x = .bl c ∧ if c = true then Q (.bl true) H1 else tb σ H1 Q) : tOrV ta tb σ H Q := h
theorem k_notV {ta : TE} (h : ta σ H fun x H1 => ∃ c, x = .bl c ∧ Q (.bl (!c)) H1) : tNotV ta σ H Q := h
theorem k_nil {R : List V → Hp → Prop} (q : R [] H) : tNil σ H R := q
theorem k_cons {ta : TE} {tr : TA} {R : List V → Hp → Prop} (h : ta σ H fun x H1 => tr σ H1 fun xs H2 => R (x :: xs) H2) : tCons ta tr σ H R := h
theorem k_cb {r : List V → Hp → VK → Prop} {t : TA} (h : t σ H fun vs H1 => r vs H1 Q) : tCB r t σ H Q := h
theorem k_call {sp : Sp} {E : XK} {t : TA} (h : t σ H fun vs H1 => sp (vs ++ []) H1 Q E) : tCall sp [] E t σ H Q := h
theorem k_tup {t : TA} (h : t σ H fun vs H1 => vs.length ≤ sizeLine ∧ NewO Q (.tup vs) H1) : tTup t σ H Q := h
theorem k_lst {t : TA} (h : t σ H fun vs H1 => vs.length ≤ sizeLine ∧ NewO Q (.lst vs) H1) : tLst t σ H Q := h
theorem k_new {o : HO} {c : Prop} (hz : c) (h : ∀ p H1, H p = none → Ex H H1 → H1 p = some o → Q (.ref p) H1) : c ∧ NewO Q o H := ⟨hz, fun p n => h p _ n (Ex.new n) upd_same⟩
theorem k_fld {ta : TE} {f : Str} (h : ta σ H fun x H1 => ∃ a C dx fs v, x = .ref a ∧ H1 a = some (.ins C dx fs) ∧ Cls K C ∧ NoAttr K C f ∧ fs.lookup f = some v ∧ Q v H1) : tFld K ta f σ H Q := h
theorem k_iteT {A B : Prop} {c : Prop} [Decidable c] (hc : c) (h : A) : if decide c = true then A else B := by rw [if_pos (decide_eq_true hc)]; exact h
theorem k_iteF {A B : Prop} {c : Prop} [Decidable c] (hc : ¬ c) (h : B) : if decide c = true then A else B := by rw [if_neg (by rw [decide_eq_false hc]; decide)]; exact h
theorem k_bm {T : String} {r : V → List V → Hp → VK → Prop} {to : TE} {t : TA} (h : to σ H fun x H1 => tyV K T x H1 ∧ t σ H1 fun xs H2 => r x xs H2 Q) : tBM K T r to t σ H Q := h
theorem k_bm0 {T : String} {r : V → List V → Hp → VK → Prop} {to : TE} (h : to σ H fun x H1 => tyV K T x H1 ∧ r x [] H1 Q) : tBM0 K T r to σ H Q := h
theorem k_gsub {to ti : TE} {t : TSet} {R : L2.St → Hp → Prop} (h : to σ H fun o H1 => ti σ H1 fun i H2 => t o i v H2 fun H3 => R σ H3) : gSub to ti t v σ H R := h
theorem k_setL {R : Hp → Prop} {n : Nat} (h : H p = some (.lst xs)) (hj : ixN xs.length i = some n) (q : R (upd H p (.lst (xs.set n v)))) : rSetL (.ref p) (.int i) v H R := ⟨p, xs, i, n, rfl, rfl, h, hj, q⟩
theorem atI_zero {α : Type} {x : α} {xs : List α} : atI (x :: xs) (0 : Int) = some x := by
  unfold atI ixN
  simp
theorem atI_of {α : Type} {xs : List α} {i : Int} {v : α} (h0 : 0 ≤ i) (h : xs[i.toNat]? = some v) : atI xs i = some v := by
  have hl : i.toNat < xs.length := (List.getElem?_eq_some_iff.mp h).1
  unfold atI ixN
  rw [if_pos h0, if_pos (by omega)]
  exact h
theorem ixN_of {n : Nat} {i : Int} (h0 : 0 ≤ i) (h : i < n) : ixN n i = some i.toNat := by
  unfold ixN
  rw [if_pos h0, if_pos h]
theorem ixN_zero {n : Nat} (h : 0 < n) : ixN n 0 = some 0 := ixN_of (by decide) (by omega)
end
/-! ### comprehensions -/
/-- what a comprehension asks -/
def LcK (J : It) (g : TG) (tt : TT) (te : TE) (vs : List Nat) (σ : L2.St) (Q : VK) (H1 : Hp) : Prop := ∀ D, H1 D = none → ∃ W : Nat → Nat → Hp → Prop, (∃ m, W 0 m (upd H1 D (.lst []))) ∧ ∀ i m H, W i m H →
      (J.stop i H ∧ Q (.ref D) H) ∨ (J.go i H ∧ ∃ Nx : Hp → Prop, (∀ H', Nx H' → ∃ m', m' < m ∧ W (i + 1) m' H') ∧ ∀ x H', J.yld i H x H' → g x (wipe σ vs) H' fun σ2 H2 => wipe σ2 vs = wipe σ vs ∧ tt σ2 H2 fun b H3 =>
        if b = true then te σ2 H3 fun y H4 => ∃ acc, H4 D = some (.lst acc) ∧ acc.length < sizeLine ∧ Nx (upd H4 D (.lst (acc ++ [y]))) else Nx H3)
/-- all that is no list is kept -/
def ExT (H H' : Hp) : Prop := ∀ a o, (∀ l, o ≠ .lst l) → H a = some o → H' a = some o
theorem Ex.t {H H' : Hp} (e : Ex H H') : ExT H H' := fun a o _ h => e a o h
theorem ExT.refl (H : Hp) : ExT H H := fun _ _ _ h => h
theorem ExT.trans {H H1 H2 : Hp} (a : ExT H H1) (b : ExT H1 H2) : ExT H H2 := fun x o n h => b x o n (a x o n h)
theorem ExT.upd {H : Hp} {D : Addr} {xs ys : List V} (h : H D = some (.lst xs)) : ExT H (upd H D (.lst ys)) := fun a o n e => by
  rw [upd_ne fun z => n xs (by rw [z, h] at e; exact (Option.some.inj e).symm)]
  exact e
theorem ExB.t {H H' : Hp} {l : Addr} {xs : List V} (b : ExB l H H') (h : H l = some (.lst xs)) : ExT H H' := fun a o n e => b a o (fun z => n xs (by rw [z, h] at e; exact (Option.some.inj e).symm)) e
theorem Paired.snoc' {α β : Type} {F : α → β → Prop} {x : α} {y : β} (h : F x y) : ∀ {l : List α} {m : List β}, Paired F l m → Paired F (l ++ [x]) (m ++ [y])
  | _, _, .nil => .cons h .nil
  | _, _, .cons r t => .cons r (Paired.snoc' h t)
section
variable {J : It} {n : Nat} {G : Hp → Prop} {Y : Nat → Hp → V → Hp → Prop} {g : TG} {tt : TT} {te : TE} {vs : List Nat} {σ : L2.St} {H1 : Hp} {Q : VK}
theorem lc_rel (w : Walk J n G Y) (sel : Nat → Bool) (Rel : Nat → V → Hp → Prop) (hz : n ≤ 100000) (hst : ∀ i y H H', ExT H H' → Rel i y H → Rel i y H') (hG : ∀ H', Ex H1 H' → G H')
    (hs : ∀ i x H' H'' (R1 : V → Hp → Prop) (R0 : Hp → Prop), i < n → Ex H1 H' → Y i H' x H'' → (∀ y H4, Ex H' H4 → sel i = true → Rel i y H4 → R1 y H4) → (∀ H3, Ex H' H3 → sel i = false → R0 H3) →
      g x (wipe σ vs) H'' fun σ2 H2 => wipe σ2 vs = wipe σ vs ∧ tt σ2 H2 fun b H3 => if b = true then te σ2 H3 R1 else R0 H3)
    (hd : ∀ D H' ys, H1 D = none → Ex H1 H' → H' D = some (.lst ys) → Paired (fun i y => Rel i y H') ((List.range n).filter sel) ys → Q (.ref D) H') :
    LcK J g tt te vs σ Q H1 := by
  intro D hD
  refine lc_it w (fun i H' => ∃ ys, Ex H1 H' ∧ H' D = some (.lst ys) ∧ Paired (fun i y => Rel i y H') ((List.range i).filter sel) ys) ⟨[], Ex.new hD, upd_same, .nil⟩ (fun i H' _ ⟨_, e, _⟩ => hG H' e) (fun i x H' H'' hi ⟨ys, e, hL, pr⟩ y => ?_) fun H' ⟨ys, e, hL, pr⟩ => hd D H' ys hD e hL pr
  have len : ys.length ≤ i := by
    have z := Paired.length pr
    have z2 := List.length_filter_le sel (List.range i)
    rw [List.length_range] at z2
    omega
  refine hs i x H' H'' _ _ hi e y (fun v H4 e4 hsel r => ?_) fun H3 e3 hsel => ?_
  · have hL4 := e4 _ _ hL
    have tt4 : ExT H4 (upd H4 D (.lst (ys ++ [v]))) := ExT.upd hL4
    refine ⟨ys, hL4, Nat.lt_of_le_of_lt (Nat.le_trans len (Nat.le_trans (Nat.le_of_lt hi) hz)) (by rw [sizeLine_eq]; decide), ys ++ [v], ?_, upd_same, ?_⟩
    · exact ExB.old (e.trans e4) hD ExB.upd
    · rw [List.range_succ, List.filter_append, List.filter_cons, if_pos hsel]
      exact Paired.snoc' (F := fun i y => Rel i y (upd H4 D (.lst (ys ++ [v])))) (hst _ _ _ _ tt4 r) (Paired.mapP (F := fun i y => Rel i y H') (G := fun i y => Rel i y (upd H4 D (.lst (ys ++ [v])))) pr fun a b z => hst a b H' _ (e4.t.trans tt4) z)
  · refine ⟨ys, e.trans e3, e3 _ _ hL, ?_⟩
    rw [List.range_succ, List.filter_append, List.filter_cons, if_neg (by rw [hsel]; decide)]
    show Paired _ (_ ++ []) _
    rw [List.append_nil]
    exact Paired.mapP (F := fun i y => Rel i y H') (G := fun i y => Rel i y H3) pr fun a b z => hst a b H' _ e3.t z
theorem Paired.get' {α β : Type} {F : α → β → Prop} : ∀ {l : List α} {m : List β}, Paired F l m → ∀ {i : Nat} {x : α}, l[i]? = some x → ∃ y, m[i]? = some y ∧ F x y
  | _, _, .nil, i, x, h => by simp at h
  | _, _, .cons r t, 0, x, h => ⟨_, rfl, by simp at h; rw [← h]; exact r⟩
  | _, _, .cons r t, i + 1, x, h => by
    obtain ⟨y, a, b⟩ := Paired.get' t (i := i) (by simpa using h)
    exact ⟨y, by simpa using a, b⟩
/-- told place by place -/
theorem Paired.eq_of {F : Nat → V → Prop} {n : Nat} {ys zs : List V} (pr : Paired F (List.range n) ys) (hz : zs.length = n) (h : ∀ i y, i < n → F i y → zs[i]? = some y) : ys = zs := by
  have hl := Paired.length pr
  rw [List.length_range] at hl
  refine List.ext_getElem? fun j => ?_
  by_cases hj : j < n
  · obtain ⟨y, e, f⟩ := Paired.get' pr (i := j) (x := j) (by rw [List.getElem?_range hj])
    rw [e, h j y hj f]
  · rw [List.getElem?_eq_none (by omega), List.getElem?_eq_none (by omega)]
theorem filter_true (l : List Nat) : l.filter (fun _ => true) = l := by simp
theorem Paired.vals {f : Nat → V} : ∀ {is : List Nat} {ys : List V}, Paired (fun i y => y = f i) is ys → ys = is.map f
  | _, _, .nil => rfl
  | _, _, .cons r t => by rw [r, Paired.vals t]; rfl
theorem k_lc {wi : TI} {H : Hp} (h : wi σ H fun J H1 => LcK J g tt te vs σ Q H1) : tLc wi g tt te vs σ H Q := h
end
end L3
end

section
/-! Law-independent layer 2: enumerate over tuples -/
namespace L3
open PySem PySem.Spec PyProof.Rows L2
open Sem (wp)
open AutoSeq1 (wpAny_loadPart')
theorem meets_enumerate_newT (l : Addr) (items : Array Value) (n : Nat) (dct : Option Addr) (sl : Array (Option Value)) :
    Meets (Builtin.«enumerate.__new__» ⟨[.type "enumerate", .ref l], []⟩) (fun _ R s => s.heap.get? l = some { cls := .type "tuple", dict := dct, data := .seq items n, slots := sl } ∧
      R (.ok (.ret (.ref (s.heap.push { cls := .type "tuple_iterator", data := .fields #[.ref l, .int 0 0] }).objs.size)))
        { s with heap := (s.heap.push { cls := .type "tuple_iterator", data := .fields #[.ref l, .int 0 0] }).push { cls := .type "enumerate", data := .fields #[.none, .bool false, .ref s.heap.objs.size, rawInt 0, .none, .none] } }) :=
  .of_wp fun prog w A R s h => by
    obtain ⟨hp, g, d, tk, os⟩ := s; obtain ⟨hl, h⟩ := h
    have hsub := sub_enumerate
    have hL : Heap.IsTuple (Shared.heap ⟨hp, g, d, tk, os⟩) l items := ⟨_, hl, rfl, n, rfl⟩
    wp_walk using wpAny_loadPart' hl
    refine wpAny_stack_any fun st => wpAny_pure ?_
    split
    · rename_i c _ _ _ _ _
      cases (c == Value.type "enumerate")
      · wp_walk using wpAny_loadPart' hl, wpAny_pyIter_tuple hL
        exact ⟨_, rfl, h⟩
      · wp_walk using wpAny_loadPart' hl, wpAny_pyIter_tuple hL
        exact ⟨_, rfl, h⟩
    · wp_walk using wpAny_loadPart' hl, wpAny_pyIter_tuple hL
      exact ⟨_, rfl, h⟩
theorem call_enumerate_tuple {prog : Program} {w : World} {A : Around} {E : Value → Shared → Prop} {s : Shared} {l : Addr} {items : Array Value} {Q : Value → Shared → Prop} (hL : s.heap.IsTuple l items)
    (h : ∀ h', IsEnum h' (s.heap.objs.size + 1) s.heap.objs.size 0 .none → h'.IsTupleIter s.heap.objs.size l 0 → h'.objs.size = s.heap.objs.size + 2 →
      (∀ b o, s.heap.get? b = some o → h'.get? b = some o) → Q (.ref (s.heap.objs.size + 1)) { s with heap := h' }) :
    wpAny (model prog w) A (call (.type "enumerate") [.ref l]) Q E s := by
  obtain ⟨⟨c, dct, dt, sl⟩, hl, hc, n, hd⟩ := hL
  replace hc : c = .type "tuple" := hc
  replace hd : dt = .seq items n := hd
  subst hc hd
  refine callType_new F.called_enumerate (by decide) (F.typeCall_enumerate_1 _) (F.newCall_enumerate_1 _) (fun obj => F.args_object_init_2 obj _) F.entry_enumerate_new
    (meets_enumerate_newT l items n dct sl) ⟨hl, ?_⟩
  have hz : (s.heap.push { cls := .type "tuple_iterator", data := .fields #[.ref l, .int 0 0] }).objs.size = s.heap.objs.size + 1 := Heap.size_push ..
  show _ ∧ _
  rw [hz]
  have he : IsEnum ((s.heap.push { cls := .type "tuple_iterator", data := .fields #[.ref l, .int 0 0] }).push
      { cls := .type "enumerate", data := .fields #[.none, .bool false, .ref s.heap.objs.size, rawInt 0, .none, .none] }) (s.heap.objs.size + 1) s.heap.objs.size 0 .none := by
    have := Heap.get?_push_size (s.heap.push { cls := .type "tuple_iterator", data := .fields #[.ref l, .int 0 0] })
      (o := { cls := .type "enumerate", data := .fields #[.none, .bool false, .ref s.heap.objs.size, rawInt 0, .none, .none] }) rfl
    rw [hz] at this; exact this
  refine ⟨⟨_, he, rfl⟩, h _ he ⟨_, Heap.get?_push_of_some _ (Heap.get?_push_size _ rfl), rfl, rfl⟩ (by rw [Heap.size_push, hz]) fun b o x => Heap.get?_push_of_some _ (Heap.get?_push_of_some _ x)⟩
/-- the tuple at a, each item in a new pair -/
def IteT (K : PySem.W.Frag) (a : Addr) : It :=
  ⟨fun i H => ∃ (xs : List V) (x : V), SqT K H a xs ∧ xs[i]? = some x, fun i H v H' => ∃ T x, v = .ref T ∧ H T = none ∧ H' = upd H T (.tup [.int (i : Nat), x]) ∧ ∀ xs, SqT K H a xs → xs[i]? = some x, fun i H => ∃ xs : List V, SqT K H a xs ∧ xs.length = i⟩
theorem turn_enumT {P : Program} {w : World} {K : PySem.W.Frag} {elts : List Expr} {kk : Nat} {tpos : Pos} (a e it : Addr) :
    Turn P w K (.Tuple elts kk tpos) (IteT K a) [e, it] e (fun i h => (∃ old, IsEnum h e it ((i : Nat) : Int) old) ∧ h.IsTupleIter it a i ∧ e ≠ it) where
  mem := by simp
  obj := fun i h st b hb => by
    obtain ⟨⟨old, he⟩, ⟨o, ho, hc, hd⟩, _⟩ := st
    have e' : b = e ∨ b = it := by simpa using hb
    rcases e' with z | z
    · rw [z]; exact ⟨_, he, fun v q => nomatch q⟩
    · rw [z]; exact ⟨o, ho, fun v q => by rw [hd] at q; cases q⟩
  keep := fun i h h' st k => let ⟨⟨old, he⟩, hi, hne⟩ := st; ⟨⟨old, k e (by simp) _ he⟩, hi.at fun o q => k it (by simp) o q, hne⟩
  item := by
    intro X hP hw hK hc i pins s σ H E I hf st hg
    subst hP hw hK
    obtain ⟨⟨old, he⟩, hit, hne⟩ := st
    obtain ⟨xs, x, hq, hx⟩ := hg
    obtain ⟨its, rv, p, hz⟩ := I.tuple hq
    have hT0 : s.heap.IsTuple a its.toArray := p
    obtain ⟨u, hu, ru⟩ := rv.get hx
    have hel : e < s.heap.objs.size := Heap.lt_size he
    have hil : it < s.heap.objs.size := by obtain ⟨_, q, _⟩ := hit; exact Heap.lt_size q
    have hai : a ≠ it := fun z => by
      obtain ⟨o, ho, hc1, _⟩ := id hT0
      obtain ⟨o2, ho2, hc2, _⟩ := id hit
      rw [z] at ho
      obtain rfl := Option.some.inj (ho.symm.trans ho2)
      rw [hc1] at hc2
      simp at hc2
    have hea : e ≠ a := fun z => by
      obtain ⟨o, ho, hc1, _⟩ := id hT0
      have he' := he
      rw [z] at he'
      obtain rfl := Option.some.inj (ho.symm.trans he')
      simp at hc1
    have hlen := rv.length
    have hxl : i < xs.length := (List.getElem?_eq_some_iff.mp hx).1
    refine wpAny_pyNext_enum_itemD (Draws.tuple (show X.A.in1.handled = none from I.ok.hd hc) it a hai its.toArray) he ⟨hit, hT0⟩ (by simp; omega) hne (by simp [hne, hea]) fun y h' tk hy ho hit' hT hsz hk => ?_
    have ey : y = u := by
      simp at hy
      rw [hu] at hy
      exact (Option.some.inj hy).symm
    subst ey
    refine ⟨_, rfl, wpAny_letOwnedTupleGo_enum (s := { s with heap := h', toks := tk + 1 }) ho fun h'' he' sb => ?_⟩
    have hT2 : h''.get? s.heap.objs.size = some { cls := .type "tuple", data := .seq #[.int i tk, y] } := (sb.2 _ (Nat.ne_of_gt hel)).trans hT
    have new : ObjOk X.prog X.w (upd H s.heap.objs.size (.tup [.int (i : Nat), x])) h'' s.heap.objs.size (.tup [.int (i : Nat), x]) :=
      ⟨by show 2 ≤ sizeLine; decide, [.int i tk, y], .cons ⟨_, rfl⟩ (.cons ru .nil), ⟨_, hT2, rfl, _, rfl⟩⟩
    have I1 : Inv X pins σ (upd H s.heap.objs.size (.tup [.int (i : Nat), x])) { s with heap := h'', toks := tk + 1 } :=
      I.turnedNew (ch := [e, it]) (fun b ob hb q => (sb.2 b (fun z => hb (by simp [z]))).trans (hk b ob (fun z => hb (by simp [z])) (fun z => hb (by simp [z])) q)) hf (Nat.le_refl _) new
    refine ⟨.ref s.heap.objs.size, _, I1, rfl, ⟨_, x, rfl, I.hok.fresh (Nat.le_refl _), rfl, fun ys hy => by rw [I.tuple_inj hy hq]; exact hx⟩, ⟨⟨y, ?_⟩, hit'.1.at fun o q => (sb.2 it (Ne.symm hne)).trans q, hne⟩, fun b hb => ?_⟩
    · have e1 : ((i + 1 : Nat) : Int) = (i : Int) + 1 := by omega
      rw [e1]; exact he'
    · have hb' : b < s.heap.objs.size := by
        have e' : b = e ∨ b = it := by simpa using hb
        rcases e' with z | z
        · rw [z]; exact hel
        · rw [z]; exact hil
      rw [upd_ne (Nat.ne_of_lt hb')]
      exact (hf b hb).1
  done := by
    intro X hP hw hK hc i pins s σ H E I hf st hg
    subst hP hw hK
    obtain ⟨⟨old, he⟩, hit, hne⟩ := st
    obtain ⟨xs, hq, hx⟩ := hg
    obtain ⟨its, rv, p, hz⟩ := I.tuple hq
    have hT0 : s.heap.IsTuple a its.toArray := p
    obtain ⟨f0, f1, f2, f3, f4, f5⟩ := hf it (by simp)
    have hai : a ≠ it := fun z => by
      obtain ⟨o, ho, hc1, _⟩ := id hT0
      obtain ⟨o2, ho2, hc2, _⟩ := id hit
      rw [z] at ho
      obtain rfl := Option.some.inj (ho.symm.trans ho2)
      rw [hc1] at hc2
      simp at hc2
    have hl := rv.length
    exact wpAny_pyNext_enum_endD (Draws.tuple (show X.A.in1.handled = none from I.ok.hd hc) it a hai its.toArray) he ⟨by simp [← hl, hx]; exact hit, hT0⟩ fun h' eb => ⟨rfl, I.turned (t' := s.toks) (fun b o hb q => eb b o hb q) f0 f1 f3 f4 f5⟩
  self := fun A i s Q E st h => let ⟨⟨_, he⟩, _⟩ := st; wpAny_pyIter_enum he h
def iEnumA (K : PySem.W.Frag) (ta : TA) : TI := fun σ H R => ta σ H fun vs H1 => ∃ a xs, vs = [.ref a] ∧ ((SqL K H1 a xs ∧ R (Ite K a) H1) ∨ (SqT K H1 a xs ∧ R (IteT K a) H1))
theorem pi_enumA {X : Cx} {e : Expr} {ta : TA} {p pos tpos : Pos} {elts : List Expr} {kk : Nat} (hg : Gl X "enumerate") (hm : X.mg "enumerate" = none) (ha : PA X [e] ta) (hs : starEach [e] X.env = [(false, eval e X.env)] := by rfl) :
    PI X (.Tuple elts kk tpos) (.Call (.Name "enumerate" p) [e] [] pos) (iEnumA X.K ta) := by
  refine ⟨fun pins s σ H R I h => ?_⟩
  refine Call_ (ld_blt I hg hm boot_enumerate (PyProof.Rows.callWith_type1 (thn (ha.run pos pins s σ H _ I h) fun us s1 ⟨vs, H1, I1, r1, q1⟩ => ?_) hs rfl))
  obtain ⟨a, xs, ex, q⟩ := q1
  subst ex
  cases r1 with
  | cons r rr =>
    cases rr
    cases r
    have fp : ∀ b, b = s1.heap.objs.size + 1 ∨ b = s1.heap.objs.size → s1.heap.objs.size ≤ b := fun b e' => by
      rcases e' with z | z
      · rw [z]; exact Nat.le_add_right _ _
      · rw [z]; exact Nat.le_refl _
    rcases q with ⟨hq, q⟩ | ⟨hq, q⟩
    · obtain ⟨its, rv, p', hz⟩ := I1.list hq
      refine call_enumerate_list p'.isList fun h' he hit hsz hk => wpAny_pyIter_enum he ?_
      have I2 : Inv X pins σ H1 { s1 with heap := h' } := I1.kept (t' := s1.toks) hk
      exact ⟨s1.heap.objs.size + 1, [s1.heap.objs.size + 1, s1.heap.objs.size], _, _, H1, rfl, I2, turn_enum a (s1.heap.objs.size + 1) s1.heap.objs.size, ⟨⟨.none, he⟩, hit, Nat.succ_ne_self _⟩, fun b hb => I1.fpOk (fp b (by simpa using hb)) (I1.hok.fresh (fp b (by simpa using hb))), q⟩
    · obtain ⟨its, rv, p', hz⟩ := I1.tuple hq
      refine call_enumerate_tuple (show s1.heap.IsTuple a its.toArray from p') fun h' he hit hsz hk => wpAny_pyIter_enum he ?_
      have I2 : Inv X pins σ H1 { s1 with heap := h' } := I1.kept (t' := s1.toks) hk
      exact ⟨s1.heap.objs.size + 1, [s1.heap.objs.size + 1, s1.heap.objs.size], _, _, H1, rfl, I2, turn_enumT a (s1.heap.objs.size + 1) s1.heap.objs.size, ⟨⟨.none, he⟩, hit, Nat.succ_ne_self _⟩, fun b hb => I1.fpOk (fp b (by simpa using hb)) (I1.hok.fresh (fp b (by simpa using hb))), q⟩
theorem walk_enumT {K : PySem.W.Frag} {a : Addr} {xs : List V} : Walk (IteT K a) xs.length (fun H => SqT K H a xs) (YPair (fun i => some (.int (i : Nat))) (fun i => xs[i]?)) := by
  refine ⟨fun i _ hi q => ⟨xs, xs[i], q, by simp [hi]⟩, fun _ q => ⟨xs, q, rfl⟩, fun i H v H' _ q y => ?_⟩
  obtain ⟨T, x, h1, h2, h3, h4⟩ := y
  exact ⟨T, .int (i : Nat), x, h1, h2, h3, rfl, h4 xs q⟩
end L3
end

section
/-! Law-independent layer 3: sorted of data, d.items() as a value -/
namespace L3
open PySem PySem.Spec PyProof.Rows L2 PySem.W L2.DX
mutual
theorem readsThere {h : Heap} : ∀ (d : PyData) (v : Value) (as : List Addr), alike d d = true → Reads h v d as → ∀ a ∈ as, a < h.objs.size
  | .none, _, _, _, r => by cases r; exact fun _ q => nomatch q
  | .bool _, _, _, _, r => by cases r; exact fun _ q => nomatch q
  | .int _, _, _, _, r => by cases r; exact fun _ q => nomatch q
  | .str _, _, _, _, r => by cases r; exact fun _ q => nomatch q
  | .list xs, _, _, hal, r => by
    cases r with
    | list h1 h2 h3 h4 =>
      intro b hb
      rcases List.mem_cons.mp hb with rfl | hb
      · exact Heap.lt_size h1
      · exact readsAllThere xs _ _ (by simpa [alike] using hal) h4 b hb
  | .tuple xs, _, _, hal, r => by
    cases r with
    | tuple h1 h2 h3 h4 => exact readsAllThere xs _ _ (by simpa [alike] using hal) h4
  | .dict _, _, _, hal, _ => absurd hal (by simp [alike])
theorem readsAllThere {h : Heap} : ∀ (ds : List PyData) (vs : List Value) (as : List Addr), alikeAll ds ds = true → ReadsAll h vs ds as → ∀ a ∈ as, a < h.objs.size
  | [], _, _, _, r => by cases r; exact fun _ q => nomatch q
  | d :: ds, _, _, hal, r => by
    cases r with
    | cons h1 h2 =>
      intro b hb
      rcases List.mem_append.mp hb with hb | hb
      · exact readsThere d _ _ (alike_all_cons hal).1 h1 b hb
      · exact readsAllThere ds _ _ (alike_all_cons hal).2 h2 b hb
end
theorem EachIs.mem {α β : Type} {R S : α → β → Prop} : ∀ {as : List α} {bs : List β}, EachIs R as bs → (∀ a b, b ∈ bs → R a b → S a b) → EachIs S as bs
  | _, _, .nil, _ => .nil
  | _, _, .cons h t, k => .cons (k _ _ (List.mem_cons_self ..) h) (EachIs.mem t fun a b hb => k a b (List.mem_cons_of_mem _ hb))
/-- sorted(v), v's items collected -/
theorem sorted_gen {prog : Program} {w : World} {A : Around} {E : Value → Shared → Prop} {s : Shared} {v : Value} {Q : Value → Shared → Prop}
    (hcol : ∀ C : List Value → Shared → Prop, (∀ vs h' tk, (∃ (bs : List PyData) (R : Value → PyData → Prop), (∀ b o, s.heap.get? b = some o → h'.get? b = some o) ∧ vs.length = bs.length ∧ bs.length ≤ sizeLine ∧ EachIs R vs bs ∧ EachIs (fun v b => ∃ as, Reads h' v b as) vs bs ∧ AllAlike bs ∧ Sortable bs ∧
      (∀ b, b ∈ bs → A.units + 3 + b.depth < cLine) ∧
      ∀ (h2 : Heap) (out : List Value), out.length = bs.length → EachIs R out (bs.mergeSort (dataLe false id)) → (∀ b o, h'.get? b = some o → h2.get? b = some o) → (∃ e, h2.get? h'.objs.size = some (seqObj "list" out.toArray e)) → Q (.ref h'.objs.size) { s with heap := h2, toks := tk }) → C vs { s with heap := h', toks := tk }) →
      wpAny (model prog w) A.in1 (collect v) C E s) :
    wpAny (model prog w) A (call (.builtin "sorted") [v]) Q E s := by
  refine Calls.call_function_entry kind_sorted plain_sorted entry_sorted (args_sorted1 _) ?_
  unfold Builtin.«sorted»
  refine wpAny_bind (m := checkCount "sorted" 1 1 _) (wpAny_pure ?_)
  refine wpAny_bind (hcol _ fun vs h' tk ⟨bs, R, hk, hl, hz, e, er, hal, hs, hu, h⟩ => ?_)
  refine wpAny_bind (wpAny_newList ?_ (by rw [hl]; exact hz))
  have hoL : (h'.push (seqObj "list" vs.toArray 0)).get? h'.objs.size = some (seqObj "list" vs.toArray 0) := Heap.get?_push_size _ rfl
  have lt : ∀ {b : Addr} {o : Obj}, h'.get? b = some o → b < h'.objs.size := fun e => Heap.lt_size e
  have er2 : EachIs (fun v b => ∃ as, Reads (h'.push (seqObj "list" vs.toArray 0)) v b as ∧ h'.objs.size ∉ as) vs bs := EachIs.mem er fun _ b hb ⟨as, r⟩ => ⟨as, PyProof.Rows.Reads.keeps (fun _ _ q => Heap.get?_push_of_some _ q) r, fun hm => Nat.lt_irrefl _ (readsThere b _ _ (hal b hb b hb) r _ hm)⟩
  show wpAny _ _ _ _ _ { s with heap := h'.push (seqObj "list" vs.toArray 0), toks := tk }
  refine wpAny_bind (wpAny_holding (list_sort_data (s := { s with heap := h'.push (seqObj "list" vs.toArray 0), toks := tk }) (enc := id) hoL e er2 (by rw [List.map_id]; exact hal) (by rw [List.map_id]; exact hs) hz (fun b hb => by have := hu b hb; show A.units + 1 + 1 + b.depth < _; omega) fun out ho eo => ?_))
  refine wpAny_pure ⟨_, rfl, h _ out ho eo (fun b o q => ?_) (sortedHeap_at hoL)⟩
  rw [sortedHeap_old (Nat.ne_of_lt (lt q)) (by rw [size_push']; exact Nat.lt_succ_of_lt (lt q))]
  exact Heap.get?_push_of_some _ q
section
variable {X : Cx}
theorem each_dp {K : PySem.W.Frag} {H : Hp} : ∀ {vs : List V} {us : List Value} {ds : List PyData}, Vals vs us → DpAll K H vs ds → EachIs (fun u d => ∃ v, RelV v u ∧ Dp K H v d) us ds
  | _, _, _, .nil, .nil => .nil
  | _, _, _, .cons r rr, .cons a aa => .cons ⟨_, r, a⟩ (each_dp rr aa)
theorem dp_each {K : PySem.W.Frag} {H : Hp} : ∀ {us : List Value} {ds : List PyData}, EachIs (fun u d => ∃ v, RelV v u ∧ Dp K H v d) us ds → ∃ vs, Vals vs us ∧ DpAll K H vs ds
  | _, _, .nil => ⟨[], .nil, .nil⟩
  | _, _, .cons ⟨v, r, a⟩ t => let ⟨vs, rr, aa⟩ := dp_each t; ⟨v :: vs, .cons r rr, .cons a aa⟩
theorem each_reads {pins : List (Addr × Obj)} {σ : L2.St} {H : Hp} {s : Shared} (I : Inv X pins σ H s) : ∀ {us : List Value} {ds : List PyData}, EachIs (fun u d => ∃ v, RelV v u ∧ Dp X.K H v d) us ds → EachIs (fun u d => ∃ as, Reads s.heap u d as) us ds
  | _, _, .nil => .nil
  | _, _, .cons ⟨v, r, a⟩ t => .cons (Dp.reads I _ v _ a r) (each_reads I t)
/-- data that sort -/
structure SortOk (ds : List PyData) : Prop where
  al : AllAlike ds
  so : Sortable ds
  dp : ∀ d ∈ ds, d.depth ≤ 8
  ln : ds.length ≤ 1000
def rSortD (K : PySem.W.Frag) : List V → Hp → VK → Prop := fun xs H Q => ∃ (a : Addr) (vs : List V) (ds : List PyData), xs = [.ref a] ∧ (SqL K H a vs ∨ SqT K H a vs) ∧ DpAll K H vs ds ∧ SortOk ds ∧
  ∀ p vs', H p = none → DpAll K H vs' (ds.mergeSort (dataLe false id)) → Q (.ref p) (upd H p (.lst vs'))
theorem cr_sortD (hu : X.A.units + 64 < cLine) : CallR X (.builtin "sorted") (rSortD X.K) := by
  intro pins s σ H xs us Q I r h
  obtain ⟨a, vs, ds, rfl, hs, hd, so, q⟩ := h
  rw [Vals.ref1 r]
  obtain ⟨its, T, o, n, rv, hT, ho, hc, hdt⟩ : ∃ (its : List Value) (T : String) (o : Obj) (n : Nat), Vals vs its ∧ (T = "list" ∨ T = "tuple") ∧ s.heap.get? a = some o ∧ o.cls = .type T ∧ o.data = .seq its.toArray n := by
    rcases hs with hs | hs
    · obtain ⟨its, rv, hl, hz⟩ := I.list hs
      obtain ⟨o, ho, hc, n, hd⟩ := hl.isList
      exact ⟨its, "list", o, n, rv, .inl rfl, ho, hc, hd⟩
    · obtain ⟨its, rv, hl, hz⟩ := I.tuple hs
      obtain ⟨o, ho, hc, n, hd⟩ := show s.heap.IsTuple a its.toArray from hl
      exact ⟨its, "tuple", o, n, rv, .inr rfl, ho, hc, hd⟩
  have e := each_dp rv hd
  have hln := so.ln
  have el := e.length
  refine sorted_gen fun C k => wpAny_collect_seq a hT ho hc hdt (fun h' hk => ?_) (by rw [List.size_toArray, sizeLine_eq]; omega)
  have I1 : Inv X pins σ H { s with heap := h' } := I.kept (t' := s.toks) hk
  refine k _ h' s.toks ⟨ds, fun u d => ∃ v, RelV v u ∧ Dp X.K H v d, hk, el, by rw [sizeLine_eq]; omega, e, each_reads I1 e, so.al, so.so, fun b hb => by have := so.dp b hb; omega, fun h2 out ho2 eo hk2 ⟨ep, hat⟩ => ?_⟩
  obtain ⟨vs', rv', ad⟩ := dp_each eo
  have hlen : vs'.length ≤ sizeLine := by
    rw [rv'.length, ho2, sizeLine_eq]
    omega
  exact ⟨.ref _, upd H h'.objs.size (.lst vs'), I1.laid (t' := s.toks) hk2 (Nat.le_refl _) ⟨hlen, out, ep, rv', hat⟩, rfl, q _ vs' (I1.hok.fresh (Nat.le_refl _)) ad⟩
/-- d.items() as a value -/
def rItemsK : V → List V → Hp → VK → Prop := fun x xs H Q => ∃ (a : Addr) (kvs : List (L2.Key × V)), x = .ref a ∧ xs = [] ∧ H a = some (.dK kvs) ∧ ∀ p, H p = none → Q (.ref p) (upd H p (itemsO p a))
theorem mt_itemsK : MtR X "dict.items" rItemsK := by
  intro pins s σ H x xs v us Q I rx rxs h
  obtain ⟨a, kvs, rfl, rfl, ha, q⟩ := h
  cases rx
  cases rxs
  obtain ⟨hz, hs0, vs, kv, hdo⟩ := I.hok a _ ha
  refine call_meetsIn PySem.F.slot_dict_items hdo.typeIs PySem.F.entry_dict_items (PySem.F.args_dict_items_1 _) (meets_dict_items (mixKind X.prog X.w) a hs0) ⟨⟨vs, hdo⟩, ?_⟩
  have hf : H s.heap.objs.size = none := I.hok.fresh (Nat.le_refl _)
  exact ⟨.ref s.heap.objs.size, upd H s.heap.objs.size (itemsO s.heap.objs.size a), I.laid (t' := s.toks) (fun b u e => Heap.get?_push_of_some _ e) (Nat.le_refl _) (itemsO_ok (Heap.get?_push_size _ rfl)), rfl, q _ hf⟩
/-- sorted(d.items()) -/
def kD : L2.Key → PyData
  | .inl i => .int i
  | .inr x => .str x
theorem kD_dp {K : PySem.W.Frag} {H : Hp} (k : L2.Key) : Dp K H (kV k) (kD k) := by
  cases k with
  | inl i => exact .int i
  | inr x => exact .str x
def ItemsOf (K : PySem.W.Frag) (H : Hp) (kvs : List (L2.Key × V)) (ds : List PyData) : Prop := Paired (fun kv d => ∃ vd, d = PyData.tuple [kD kv.1, vd] ∧ Dp K H kv.2 vd) kvs ds
def rSortIt (K : PySem.W.Frag) : List V → Hp → VK → Prop := fun xs H Q => ∃ (p a : Addr) (kvs : List (L2.Key × V)) (ds : List PyData), xs = [.ref p] ∧ H p = some (itemsO p a) ∧ H a = some (.dK kvs) ∧ ItemsOf K H kvs ds ∧ SortOk ds ∧
  ∀ H' l vs', Ex H H' → H' l = some (.lst vs') → DpAll K H' vs' (ds.mergeSort (dataLe false id)) → Q (.ref l) H'
theorem dpAll_of {K : PySem.W.Frag} {H : Hp} {vs : List V} {ds : List PyData} (hl : vs.length = ds.length) (h : ∀ (j : Nat) (v : V) (d : PyData), vs[j]? = some v → ds[j]? = some d → Dp K H v d) : DpAll K H vs ds := by
  induction vs generalizing ds with
  | nil => cases ds with
    | nil => exact .nil
    | cons d ds => simp at hl
  | cons v vs ih => cases ds with
    | nil => simp at hl
    | cons d ds => exact .cons (h 0 v d rfl rfl) (ih (by simpa using hl) fun j x y e1 e2 => h (j + 1) x y (by simpa using e1) (by simpa using e2))
theorem cr_sortIt (hc : X.calm = true) (hu : X.A.units + 64 < cLine) : CallR X (.builtin "sorted") (rSortIt X.K) := by
  intro pins s σ H xs us Q I r h
  obtain ⟨p, a, kvs, ds, rfl, hp, ha, hit, so, q⟩ := h
  rw [Vals.ref1 r]
  have view : s.heap.IsItemsView p a := (show ObjOk X.prog X.w H s.heap p (itemsO p a) from I.hok p _ hp).1
  obtain ⟨hz, hs0, vs, kv, hdo⟩ := I.hok a _ ha
  obtain ⟨ep, hat⟩ := hdo.dictAt
  have l1 := kv.length
  have l2 : kvs.length = ds.length := Paired.length hit
  have l3 := so.ln
  refine sorted_gen fun C k => kdx_collect (A := X.A.in1) (knd := mixKind X.prog X.w) (kvs := vs) (ep := ep) (show X.A.in1.handled = none from I.ok.hd hc) view hat (by rw [sizeLine_eq]; omega) fun h' tk as hk hl hG => ?_
  have nd : as.Nodup := List.Pairwise.imp (fun h => Nat.ne_of_lt h) hG.rise
  have I1 : Inv X pins σ H { s with heap := h', toks := tk } := I.kept hk
  obtain ⟨H2, I2, x2, t2⟩ := takeT (P := fun a ws => ∃ (j : Nat) (kv : L2.Key × V), as[j]? = some a ∧ kvs[j]? = some kv ∧ ws = [kV kv.1, kv.2]) I as H I1 nd fun b hb => by
    obtain ⟨j, hj⟩ := List.mem_iff_getElem?.mp hb
    obtain ⟨key, k0, x, e1, e2, e3⟩ := hG.pairs j b hj
    obtain ⟨x0, e4, r4⟩ := kv.at' e1
    refine ⟨Nat.le_of_lt (hG.above b hb), I.hok.fresh (Nat.le_of_lt (hG.above b hb)), _, ⟨j, (k0, x0), hj, e4, rfl⟩, fun H2 => ⟨by show 2 ≤ sizeLine; decide, [key, x], .cons ?_ (.cons r4 .nil), ⟨_, e3, rfl, _, rfl⟩⟩⟩
    exact relV_key (show keyIs k0 key = true from e2)
  have la : (as.map V.ref).length = ds.length := by rw [List.length_map, hl, ← l1, l2]
  have dd : DpAll X.K H2 (as.map V.ref) ds := dpAll_of la fun j v d e1 e2 => by
    rw [List.getElem?_map] at e1
    cases ea : as[j]? with
    | none => rw [ea] at e1; cases e1
    | some b =>
      rw [ea] at e1
      cases e1
      obtain ⟨ws, ⟨j', kv', f1, f2, f3⟩, f4⟩ := t2 b (List.mem_of_getElem? ea)
      obtain rfl : j = j' := by
        have h1 := (List.getElem?_eq_some_iff.mp ea)
        have h2 := (List.getElem?_eq_some_iff.mp f1)
        obtain ⟨q1, w1⟩ := h1
        obtain ⟨q2, w2⟩ := h2
        exact (List.getElem_inj nd).mp (w1.trans w2.symm)
      obtain ⟨d', g1, vd, g2, g3⟩ := Paired.get' hit f2
      rw [e2] at g1
      cases g1
      subst g2 f3
      exact .tup (.inl (.inl f4)) (.cons (kD_dp _) (.cons (Dp_ex x2 _ _ g3) .nil))
  have rv : ∀ (l : List Addr), Vals (l.map V.ref) (l.map Value.ref) := fun l => by
    induction l with
    | nil => exact .nil
    | cons b l ih => exact .cons rfl ih
  have e := each_dp (rv as) dd
  refine k _ h' tk ⟨ds, fun u d => ∃ v, RelV v u ∧ Dp X.K H2 v d, hk, e.length, by rw [sizeLine_eq]; omega, e, each_reads I2 e, so.al, so.so, fun b hb => by have := so.dp b hb; omega, fun h2 out ho2 eo hk2 ⟨ep, hat⟩ => ?_⟩
  obtain ⟨vs', rv', ad⟩ := dp_each eo
  have hlen : vs'.length ≤ sizeLine := by
    rw [rv'.length, ho2, sizeLine_eq]
    omega
  have fr : H2 h'.objs.size = none := I2.hok.fresh (Nat.le_refl _)
  have e3 : Ex H2 (upd H2 h'.objs.size (.lst vs')) := Ex.new fr
  refine ⟨.ref _, upd H2 h'.objs.size (.lst vs'), I2.laid (t' := tk) hk2 (Nat.le_refl _) ⟨hlen, out, ep, rv', hat⟩, rfl, q _ _ vs' (Ex.trans x2 e3) upd_same ?_⟩
  have all : ∀ (ds : List PyData) (vs : List V), DpAll X.K H2 vs ds → DpAll X.K (upd H2 h'.objs.size (.lst vs')) vs ds := fun ds vs h => DpAll_ex e3 ds vs h
  exact all _ _ ad
end
end L3
end

section
/-! Law-independent layer 4: orders, dicts of rows, steps -/
namespace L3
open PySem PySem.Spec PyProof.Rows L2 PySem.W L2.DX
/-! ### orders -/
theorem strict_unique {α : Type} {lt : α → α → Prop} (irr : ∀ a, ¬ lt a a) (tr : ∀ a b c, lt a b → lt b c → lt a c) : ∀ {l1 l2 : List α}, l1.Pairwise lt → l2.Pairwise lt → (∀ x, x ∈ l1 ↔ x ∈ l2) → l1 = l2
  | [], [], _, _, _ => rfl
  | [], b :: l, _, _, h => absurd ((h b).mpr (List.mem_cons_self ..)) (by simp)
  | a :: l, [], _, _, h => absurd ((h a).mp (List.mem_cons_self ..)) (by simp)
  | a :: l, b :: m, p, q, h => by
    rw [List.pairwise_cons] at p q
    have e : a = b := by
      rcases List.mem_cons.mp ((h a).mp (List.mem_cons_self ..)) with e | e
      · exact e
      · rcases List.mem_cons.mp ((h b).mpr (List.mem_cons_self ..)) with e2 | e2
        · exact e2.symm
        · exact absurd (tr _ _ _ (p.1 b e2) (q.1 a e)) (irr a)
    subst e
    rw [strict_unique irr tr p.2 q.2 fun x => ?_]
    constructor
    · intro hx
      rcases List.mem_cons.mp ((h x).mp (List.mem_cons_of_mem _ hx)) with e | e
      · subst e
        exact absurd (p.1 _ hx) (irr _)
      · exact e
    · intro hx
      rcases List.mem_cons.mp ((h x).mpr (List.mem_cons_of_mem _ hx)) with e | e
      · subst e
        exact absurd (q.1 _ hx) (irr _)
      · exact e
theorem str_lt_irrefl (a : Str) : ¬ a.cps.toList < a.cps.toList := List.lt_irrefl _
theorem str_lt_trans (a b c : Str) (h : a.cps.toList < b.cps.toList) (k : b.cps.toList < c.cps.toList) : a.cps.toList < c.cps.toList := List.lt_trans h k
theorem str_eq {a b : Str} (h1 : ¬ a.cps.toList < b.cps.toList) (h2 : ¬ b.cps.toList < a.cps.toList) : a = b := by
  have e : a.cps.toList = b.cps.toList := List.le_antisymm (List.not_lt.mp h2) (List.not_lt.mp h1)
  cases a with
  | mk x => cases b with
    | mk y =>
      congr 1
      exact Array.toList_inj.mp e
theorem rising_pw : ∀ (l : List Str) (p : Str), risingS p l = true → (p :: l).Pairwise (fun a b => ¬ b.cps.toList < a.cps.toList)
  | [], p, _ => by simp
  | x :: r, p, h => by
    unfold risingS at h
    rw [Bool.and_eq_true, ltCps_eq] at h
    have ih := rising_pw r x h.2
    have h1 : ¬ x.cps.toList < p.cps.toList := by simpa using h.1
    rw [List.pairwise_cons]
    refine ⟨fun y hy => ?_, ih⟩
    rcases List.mem_cons.mp hy with e | e
    · rw [e]; exact h1
    · rw [List.pairwise_cons] at ih
      have h2 := ih.1 y e
      exact List.not_lt.mpr (List.le_trans (List.not_lt.mp h1) (List.not_lt.mp h2))
theorem strs_strict {ys ks : List Str} (p : ys.Perm ks) (s : sortedS ys = true) (nd : ks.Nodup) : ys.Pairwise (fun a b => a.cps.toList < b.cps.toList) := by
  have q : ys.Pairwise (fun a b : Str => ¬ b.cps.toList < a.cps.toList) := by
    cases ys with
    | nil => exact .nil
    | cons y r => exact rising_pw r y s
  refine (List.pairwise_and_iff.mpr ⟨q, p.nodup_iff.mpr nd⟩).imp fun {a b} h => ?_
  by_cases h2 : a.cps.toList < b.cps.toList
  · exact h2
  · exact absurd (str_eq h2 h.1) h.2
theorem ints_strict {ys ks : List Int} (p : ys.Perm ks) (s : ys.Pairwise (· ≤ ·)) (nd : ks.Nodup) : ys.Pairwise (· < ·) :=
  (List.pairwise_and_iff.mpr ⟨s, p.nodup_iff.mpr nd⟩).imp fun {a b} h => by have := h.2; omega
section
variable {K : PySem.W.Frag} {σ : L2.St} {H : Hp} {Q : VK} {D : Ends} {v x y : V} {i j : Int} {a p : Addr} {xs : List V}
/-- enumerate, whichever it is -/
theorem k_enumA {ta : TA} {R : It → Hp → Prop} (h : ta σ H fun vs H1 => ∃ a xs, vs = [.ref a] ∧ ((SqL K H1 a xs ∧ R (Ite K a) H1) ∨ (SqT K H1 a xs ∧ R (IteT K a) H1))) : iEnumA K ta σ H R := h
theorem k_enumAE {g : TG} {tb : TS} {σ2 : L2.St} {Hb : Hp} (h : SqL K Hb p xs ∨ SqT K Hb p xs) (eb : Ex Hb H) (q : ∀ J G, (∀ H', Ex Hb H' → G H') → Walk J xs.length G (YPair (fun i => some (.int (i : Nat))) (fun i => xs[i]?)) → ForK J g tb D σ2 H) :
    ∃ (a : Addr) (zs : List V), [V.ref p] = [.ref a] ∧ ((SqL K H a zs ∧ ForK (Ite K a) g tb D σ2 H) ∨ (SqT K H a zs ∧ ForK (IteT K a) g tb D σ2 H)) := by
  rcases h with h | h
  · exact ⟨p, xs, rfl, .inl ⟨eb.sqL h, q _ _ (fun H' e => e.sqL h) walk_enum⟩⟩
  · exact ⟨p, xs, rfl, .inr ⟨eb.sqT h, q _ _ (fun H' e => e.sqT h) walk_enumT⟩⟩
/-- e.f = v -/
theorem k_sfld {ta tv : TE} {f : Str} (h : tv σ H fun y H1 => ta σ H1 fun x H2 => ∃ a C dx fs, x = .ref a ∧ H2 a = some (.ins C dx fs) ∧ Cls K C ∧ NoAttr K C f ∧ fs.length < 1000 ∧ D.nx σ (upd H2 a (.ins C dx (putF f y fs)))) : sFld K ta tv f D σ H := h
end
/-! ### dicts of rows: the key of a row, its tuple -/
section
variable {α κ : Type} [DecidableEq κ] (key : α → κ) (T : Hp → α → V → Prop)
def RowsK (H : Hp) (kvs : List (κ × V)) (cs : List α) : Prop := Paired (fun kv c => kv.1 = key c ∧ T H c kv.2) kvs cs
/-- the row at a key -/
def rowAt (cs : List α) (k : κ) : Option α := cs.find? fun c => decide (key c = k)
/-- a row put, in its place or at the end -/
def putR (cs : List α) (c : α) : List α := if (cs.any fun d => decide (key d = key c)) = true then cs.map (fun d => if key d = key c then c else d) else cs ++ [c]
def dropR (cs : List α) (k : κ) : List α := cs.filter fun d => decide (key d ≠ k)
variable {key T}
theorem RowsK.ex (hT : ∀ H H' c v, Ex H H' → T H c v → T H' c v) {H H' : Hp} (e : Ex H H') {kvs : List (κ × V)} {cs : List α} (r : RowsK key T H kvs cs) : RowsK key T H' kvs cs :=
  Paired.mapP r fun _ _ ⟨h1, h2⟩ => ⟨h1, hT _ _ _ _ e h2⟩
theorem RowsK.mono {T' : Hp → α → V → Prop} {H H' : Hp} (hT : ∀ c v, T H c v → T' H' c v) {kvs : List (κ × V)} {cs : List α} (r : RowsK key T H kvs cs) : RowsK key T' H' kvs cs :=
  Paired.mapP r fun _ _ ⟨h1, h2⟩ => ⟨h1, hT _ _ h2⟩
theorem RowsK.keys {H : Hp} {kvs : List (κ × V)} {cs : List α} (r : RowsK key T H kvs cs) : kvs.map (·.1) = cs.map key := by
  induction r with
  | nil => rfl
  | cons h _ ih => rw [List.map_cons, List.map_cons, h.1, ih]
theorem RowsK.length {H : Hp} {kvs : List (κ × V)} {cs : List α} (r : RowsK key T H kvs cs) : kvs.length = cs.length := Paired.length r
theorem rowAt_nil {k : κ} : rowAt key [] k = none := rfl
theorem rowAt_pos {c : α} {cs : List α} {k : κ} (h : key c = k) : rowAt key (c :: cs) k = some c := by
  unfold rowAt
  rw [List.find?_cons, decide_eq_true h]
theorem rowAt_neg {c : α} {cs : List α} {k : κ} (h : key c ≠ k) : rowAt key (c :: cs) k = rowAt key cs k := by
  unfold rowAt
  rw [List.find?_cons, decide_eq_false h]
/-- what stands at a key -/
def AtR (H : Hp) (T : Hp → α → V → Prop) (o : Option α) (v : Option V) : Prop := match o with
  | none => v = none
  | some c => ∃ x, v = some x ∧ T H c x
theorem RowsK.val {H : Hp} {kvs : List (κ × V)} {cs : List α} (r : RowsK key T H kvs cs) (k : κ) : AtR H T (rowAt key cs k) (valV kvs k) := by
  induction r with
  | nil => rfl
  | @cons kv c kvs cs h r ih =>
    obtain ⟨h1, h2⟩ := h
    by_cases e : key c = k
    · rw [rowAt_pos e, valV_pos (h1.trans e)]
      exact ⟨_, rfl, h2⟩
    · rw [rowAt_neg e, valV_neg (fun z => e (h1.symm.trans z))]
      exact ih
theorem rowAt_mem {cs : List α} (nd : (cs.map key).Nodup) {c : α} (h : c ∈ cs) : rowAt key cs (key c) = some c := by
  induction cs with
  | nil => cases h
  | cons d ds ih =>
    rw [List.map_cons, List.nodup_cons] at nd
    rcases List.mem_cons.mp h with q | q
    · rw [q, rowAt_pos rfl]
    · have e : key d ≠ key c := fun z => nd.1 (List.mem_map.mpr ⟨c, q, z.symm⟩)
      rw [rowAt_neg e]
      exact ih nd.2 q
theorem rowAt_some {cs : List α} {k : κ} {c : α} (h : rowAt key cs k = some c) : c ∈ cs ∧ key c = k := ⟨List.mem_of_find?_eq_some h, by simpa using List.find?_some h⟩
theorem rowAt_none {cs : List α} {k : κ} (h : rowAt key cs k = none) : ∀ c ∈ cs, key c ≠ k := by
  unfold rowAt at h
  rw [List.find?_eq_none] at h
  intro c hc e
  have := h c hc
  simp [e] at this
theorem rowAt_none' {cs : List α} {k : κ} (h : ∀ c ∈ cs, key c ≠ k) : rowAt key cs k = none := by
  unfold rowAt
  rw [List.find?_eq_none]
  intro c hc
  simpa using h c hc
/-- the same members, the same rows -/
theorem rowAt_ext {cs ds : List α} (n1 : (cs.map key).Nodup) (n2 : (ds.map key).Nodup) : (∀ c, c ∈ cs ↔ c ∈ ds) ↔ ∀ k, rowAt key cs k = rowAt key ds k := by
  constructor
  · intro h k
    cases e : rowAt key cs k with
    | none =>
      symm
      exact rowAt_none' fun c hc => rowAt_none e c ((h c).mpr hc)
    | some c =>
      obtain ⟨h1, h2⟩ := rowAt_some e
      rw [← h2, rowAt_mem n2 ((h c).mp h1)]
  · intro h c
    constructor
    · intro hc
      have e := rowAt_mem n1 hc
      rw [h] at e
      exact (rowAt_some e).1
    · intro hc
      have e := rowAt_mem n2 hc
      rw [← h] at e
      exact (rowAt_some e).1
theorem any_rowAt (k : κ) (cs : List α) : (cs.any fun d => decide (key d = k)) = (rowAt key cs k).isSome := by
  induction cs with
  | nil => rfl
  | cons d ds ih =>
    by_cases e : key d = k
    · rw [rowAt_pos e, List.any_cons, decide_eq_true e]; rfl
    · rw [rowAt_neg e, List.any_cons, decide_eq_false e]; exact ih
theorem putR_new {cs : List α} {c : α} (h : rowAt key cs (key c) = none) : putR key cs c = cs ++ [c] := by
  unfold putR
  rw [any_rowAt, h]
  exact if_neg (by simp)
theorem rowAt_app (cs : List α) (c : α) (k : κ) : rowAt key (cs ++ [c]) k = (rowAt key cs k).or (if key c = k then some c else none) := by
  induction cs with
  | nil =>
    by_cases e : key c = k
    · rw [if_pos e]; exact rowAt_pos e
    · rw [if_neg e]; exact rowAt_neg e
  | cons d ds ih =>
    by_cases e : key d = k
    · rw [rowAt_pos e, List.cons_append, rowAt_pos e]; rfl
    · rw [rowAt_neg e, List.cons_append, rowAt_neg e, ih]
theorem rowAt_map (cs : List α) (c : α) (k : κ) : rowAt key (cs.map fun d => if key d = key c then c else d) k = if key c = k then (rowAt key cs k).map (fun _ => c) else rowAt key cs k := by
  induction cs with
  | nil => simp [rowAt_nil]
  | cons d ds ih =>
    rw [List.map_cons]
    by_cases e : key d = key c
    · rw [if_pos e]
      by_cases f : key c = k
      · rw [if_pos f, rowAt_pos f, rowAt_pos (e.trans f)]; rfl
      · rw [if_neg f, rowAt_neg f, rowAt_neg (fun z => f (e.symm.trans z)), ih, if_neg f]
    · rw [if_neg e]
      by_cases f : key d = k
      · have g : key c ≠ k := fun z => e (f.trans z.symm)
        rw [if_neg g, rowAt_pos f, rowAt_pos f]
      · rw [rowAt_neg f, rowAt_neg f, ih]
theorem rowAt_put (cs : List α) (c : α) (k : κ) : rowAt key (putR key cs c) k = if key c = k then some c else rowAt key cs k := by
  unfold putR
  by_cases a : (cs.any fun d => decide (key d = key c)) = true
  · rw [if_pos a, rowAt_map]
    by_cases e : key c = k
    · rw [if_pos e, if_pos e]
      rw [any_rowAt, e] at a
      obtain ⟨d, hd⟩ := Option.isSome_iff_exists.mp a
      rw [hd]; rfl
    · rw [if_neg e, if_neg e]
  · rw [if_neg a, rowAt_app]
    by_cases e : key c = k
    · rw [if_pos e, if_pos e]
      rw [any_rowAt, e] at a
      cases q : rowAt key cs k with
      | none => rfl
      | some d => rw [q] at a; exact absurd rfl a
    · rw [if_neg e, if_neg e]
      cases rowAt key cs k <;> rfl
theorem putR_keys (cs : List α) (c : α) (nd : (cs.map key).Nodup) : ((putR key cs c).map key).Nodup := by
  unfold putR
  by_cases a : (cs.any fun d => decide (key d = key c)) = true
  · rw [if_pos a, List.map_map]
    have e : (key ∘ fun d => if key d = key c then c else d) = key := by
      funext d
      show key (if key d = key c then c else d) = key d
      by_cases e : key d = key c
      · rw [if_pos e, e]
      · rw [if_neg e]
    rw [e]; exact nd
  · rw [if_neg a, List.map_append]
    rw [List.any_eq_true] at a
    refine List.nodup_append.mpr ⟨nd, by simp, fun x hx y hy => ?_⟩
    obtain ⟨d, hd, rfl⟩ := List.mem_map.mp hx
    have : y = key c := by simpa using hy
    subst this
    intro e
    exact a ⟨d, hd, decide_eq_true e⟩
theorem putR_len (cs : List α) (c : α) : (putR key cs c).length ≤ cs.length + 1 := by
  unfold putR
  by_cases a : (cs.any fun d => decide (key d = key c)) = true
  · rw [if_pos a, List.length_map]; omega
  · rw [if_neg a, List.length_append]; simp
theorem rowAt_drop (cs : List α) (k j : κ) : rowAt key (dropR key cs k) j = if j = k then none else rowAt key cs j := by
  unfold dropR
  induction cs with
  | nil => simp [rowAt_nil]
  | cons d ds ih =>
    by_cases e : key d = k
    · rw [List.filter_cons, if_neg (by simp [e]), ih]
      by_cases f : j = k
      · rw [if_pos f, if_pos f]
      · rw [if_neg f, if_neg f, rowAt_neg (fun z => f (z.symm.trans e))]
    · rw [List.filter_cons, if_pos (by simp [e])]
      by_cases g : key d = j
      · rw [rowAt_pos g, rowAt_pos g, if_neg (fun z => e (g.trans z))]
      · rw [rowAt_neg g, rowAt_neg g, ih]
theorem dropR_keys (cs : List α) (k : κ) (nd : (cs.map key).Nodup) : ((dropR key cs k).map key).Nodup := nd.sublist (List.Sublist.map key List.filter_sublist)
theorem RowsK.put {H : Hp} {kvs : List (κ × V)} {cs : List α} (r : RowsK key T H kvs cs) {c : α} {v : V} (h : T H c v) : RowsK key T H (putK kvs (key c) v) (putR key cs c) := by
  have ek : (kvs.any fun kv => decide (kv.1 = key c)) = (cs.any fun d => decide (key d = key c)) := by
    clear h
    induction r with
    | nil => rfl
    | cons hh _ ih => rw [List.any_cons, List.any_cons, hh.1, ih]
  unfold putK putR
  rw [ek]
  by_cases a : (cs.any fun d => decide (key d = key c)) = true
  · rw [if_pos a, if_pos a]
    clear a ek
    induction r with
    | nil => exact .nil
    | @cons kv d kvs cs hh r ih =>
      refine .cons ?_ ih
      dsimp only
      by_cases e : key d = key c
      · rw [if_pos (hh.1.trans e), if_pos e]
        exact ⟨hh.1.trans e, h⟩
      · rw [if_neg (fun z => e (hh.1.symm.trans z)), if_neg e]
        exact hh
  · rw [if_neg a, if_neg a]
    exact Paired.snoc' ⟨rfl, h⟩ r
theorem RowsK.drop {H : Hp} {kvs : List (κ × V)} {cs : List α} (r : RowsK key T H kvs cs) (k : κ) : RowsK key T H (dropK kvs k) (dropR key cs k) := by
  unfold dropK dropR
  induction r with
  | nil => exact .nil
  | @cons kv d kvs cs hh r ih =>
    by_cases e : key d = k
    · rw [List.filter_cons, List.filter_cons, if_neg (by simp [hh.1, e]), if_neg (by simp [e])]
      exact ih
    · rw [List.filter_cons, List.filter_cons, if_pos (by simp [hh.1, e]), if_pos (by simp [e])]
      exact .cons hh ih
end
/-! ### dict comprehensions -/
theorem take_nodup' {α : Type} {l : List α} (h : l.Nodup) {i : Nat} {x : α} (e : l[i]? = some x) : x ∉ l.take i := by
  intro m
  obtain ⟨j, hj⟩ := List.mem_iff_getElem?.mp m
  have hlt : j < i := by
    have := (List.getElem?_eq_some_iff.mp hj).1
    rw [List.length_take] at this
    omega
  rw [List.getElem?_take_of_lt hlt] at hj
  obtain ⟨a1, a2⟩ := List.getElem?_eq_some_iff.mp e
  obtain ⟨b1, b2⟩ := List.getElem?_eq_some_iff.mp hj
  have := (List.getElem_inj h).mp (a2.trans b2.symm)
  omega
def DcK (J : It) (g : TG) (tt : TT) (tk tv : TE) (vs : List Nat) (σ : L2.St) (Q : VK) (H1 : Hp) : Prop := ∀ D, H1 D = none → ∃ W : Nat → Nat → Hp → Prop, (∃ m, W 0 m (upd H1 D (.dK []))) ∧ ∀ i m H, W i m H →
  (J.stop i H ∧ Q (.ref D) H) ∨ (J.go i H ∧ ∃ Nx : Hp → Prop, (∀ H', Nx H' → ∃ m', m' < m ∧ W (i + 1) m' H') ∧ ∀ x H', J.yld i H x H' → g x (wipe σ vs) H' fun σ2 H2 => wipe σ2 vs = wipe σ vs ∧ tt σ2 H2 fun b H3 =>
    if b = true then tk σ2 H3 fun y H4 => tv σ2 H4 fun z H5 => ∃ kvs k, y = kV k ∧ H5 D = some (.dK kvs) ∧ kvs.length < sizeLine ∧ Nx (upd H5 D (.dK (putK kvs k z))) else Nx H3)
theorem k_dc {wi : TI} {g : TG} {tt : TT} {tk tv : TE} {vs : List Nat} {σ : L2.St} {H : Hp} {Q : VK} (h : wi σ H fun J H1 => DcK J g tt tk tv vs σ Q H1) : tDc wi g tt tk tv vs σ H Q := h
theorem dc_rows {J : It} {n : Nat} {G : Hp → Prop} {Y : Nat → Hp → V → Hp → Prop} (w : Walk J n G Y) {α : Type} {key : α → L2.Key} {T : Hp → α → V → Prop} {rows : List α} {g : TG} {tt : TT} {tk tv : TE} {vs : List Nat} {σ : L2.St} {H1 : Hp} {Q : VK}
    (hn : rows.length = n) (nd : (rows.map key).Nodup) (hz : n ≤ 100000) (hT : ∀ H H' c v, Ex H H' → T H c v → T H' c v) (hTd : ∀ H D kvs kvs' c v, H D = some (.dK kvs) → T H c v → T (upd H D (.dK kvs')) c v) (hG : ∀ H', Ex H1 H' → G H')
    (hs : ∀ i x H' H'' c (R1 : V → V → Hp → Prop) (R0 : Hp → Prop), rows[i]? = some c → Ex H1 H' → Y i H' x H'' → (∀ z H5, Ex H' H5 → T H5 c z → R1 (kV (key c)) z H5) →
      g x (wipe σ vs) H'' fun σ2 H2 => wipe σ2 vs = wipe σ vs ∧ tt σ2 H2 fun b H3 => if b = true then tk σ2 H3 fun y H4 => tv σ2 H4 fun z H5 => R1 y z H5 else R0 H3)
    (hd : ∀ D H' kvs, H1 D = none → Ex H1 H' → H' D = some (.dK kvs) → RowsK key T H' kvs rows → Q (.ref D) H') : DcK J g tt tk tv vs σ Q H1 := by
  intro D hD
  refine ⟨fun i m H' => m = n - i ∧ i ≤ n ∧ ∃ kvs, Ex H1 H' ∧ H' D = some (.dK kvs) ∧ RowsK key T H' kvs (rows.take i), ⟨n, by simp, Nat.zero_le _, [], Ex.new hD, upd_same, .nil⟩, ?_⟩
  rintro i m H' ⟨rfl, hi, kvs, e, hk, hr⟩
  have q := hG _ e
  by_cases hlt : i < n
  · obtain ⟨c, hc⟩ : ∃ c, rows[i]? = some c := ⟨rows[i]'(by omega), List.getElem?_eq_getElem (by omega)⟩
    refine .inr ⟨w.goes i H' hlt q, fun H2 => i + 1 ≤ n ∧ ∃ kvs, Ex H1 H2 ∧ H2 D = some (.dK kvs) ∧ RowsK key T H2 kvs (rows.take (i + 1)), fun H2 p' => ⟨n - (i + 1), by omega, rfl, p'⟩, fun x H2 y => hs i x H' H2 c _ _ hc e (w.yields i H' x H2 hlt q y) fun z H5 e5 t5 => ?_⟩
    have hk5 := e5.get hk
    have hr5 := RowsK.ex hT e5 hr
    have nin : rowAt key (rows.take i) (key c) = none := by
      refine rowAt_none' fun d hd e => ?_
      have : key c ∉ (rows.map key).take i := take_nodup' nd (by rw [List.getElem?_map, hc]; rfl)
      rw [← List.map_take] at this
      exact this (List.mem_map.mpr ⟨d, hd, e⟩)
    refine ⟨kvs, key c, rfl, hk5, by rw [hr.length, List.length_take, sizeLine_eq]; omega, hlt, putK kvs (key c) z, ExB.old (e.trans e5) hD ExB.upd, upd_same, ?_⟩
    have et : putR key (rows.take i) c = rows.take (i + 1) := by rw [putR_new nin, List.take_add_one, hc]; rfl
    have p := hr5.put t5
    rw [et] at p
    exact p.mono fun c v h => hTd _ _ _ _ _ _ hk5 h
  · have e2 : i = n := by omega
    subst e2
    rw [← hn, List.take_length] at hr
    exact .inl ⟨w.stops H' q, hd D H' kvs hD e hk hr⟩
/-! ### slices of tuples -/
theorem ix_tupK {X : Cx} {K : PySem.W.Frag} (h : X.K = K) : IxR X (rIxT K) := h ▸ ix_tup
theorem ix_listK {X : Cx} {K : PySem.W.Frag} (h : X.K = K) : IxR X (rIxL K) := h ▸ ix_list
theorem sl_tupK {X : Cx} {K : PySem.W.Frag} (h : X.K = K) : SlR X (rSlA K) := h ▸ sl_tupA
theorem k_slTA {K : PySem.W.Frag} {H : Hp} {Q : VK} {p : Addr} {xs : List V} {lo hi : Option Int} (hx : SqT K H p xs) (hw : ¬ (HT.sIx xs.length 0 lo = 0 ∧ HT.sIx xs.length xs.length hi = xs.length)) (q : ∀ l H1, H l = none → Ex H H1 → H1 l = some (.tup (cutV xs lo hi)) → Q (.ref l) H1) : rSlA K (.ref p) lo hi H Q :=
  ⟨p, xs, rfl, hx, fun z => absurd z hw, fun _ l n => q l _ n (Ex.new n) upd_same⟩
/-! ### an instance is written -/
section
variable {K : PySem.W.Frag} {H H' : Hp} {p a : Addr} {C dx : Addr} {fs : List (Str × V)} {xs : List V}
theorem ExB.sqL (b : ExB p H H') (hp : H p = some (.ins C dx fs)) (h : SqL K H a xs) : SqL K H' a xs := by
  rcases h with (h | ⟨o, h⟩) | h
  · exact .inl (.inl (b _ _ (ne_of h hp (fun z => nomatch z)) h))
  · exact .inl (.inr ⟨o, b _ _ (ne_of h hp (fun z => nomatch z)) h⟩)
  · exact .inr h
theorem ExB.sqT (b : ExB p H H') (hp : H p = some (.ins C dx fs)) (h : SqT K H a xs) : SqT K H' a xs := by
  rcases h with (h | ⟨o, h⟩) | h
  · exact .inl (.inl (b _ _ (ne_of h hp (fun z => nomatch z)) h))
  · exact .inl (.inr ⟨o, b _ _ (ne_of h hp (fun z => nomatch z)) h⟩)
  · exact .inr h
mutual
theorem Dp_exB (e : ExB p H H') (hp : H p = some (.ins C dx fs)) : ∀ (d : PyData) (v : V), Dp K H v d → Dp K H' v d
  | .none, _, h => by cases h; exact .non
  | .bool b, _, h => by cases h; exact .bl b
  | .int i, _, h => by cases h; exact .int i
  | .str x, _, h => by cases h; exact .str x
  | .list ds, _, h => by
    cases h with
    | lst hs ha => exact .lst (e.sqL hp hs) (DpAll_exB e hp ds _ ha)
  | .tuple ds, _, h => by
    cases h with
    | tup hs ha => exact .tup (e.sqT hp hs) (DpAll_exB e hp ds _ ha)
  | .dict _, _, h => by cases h
theorem DpAll_exB (e : ExB p H H') (hp : H p = some (.ins C dx fs)) : ∀ (ds : List PyData) (vs : List V), DpAll K H vs ds → DpAll K H' vs ds
  | [], _, h => by cases h; exact .nil
  | d :: ds, _, h => by
    cases h with
    | cons h1 h2 => exact .cons (Dp_exB e hp d _ h1) (DpAll_exB e hp ds _ h2)
end
/-- a field written: what stays -/
theorem k_sfldE {f : Str} {y : V} {R : Hp → Prop} (hp : H p = some (.ins C dx fs)) (c : Cls K C) (n : NoAttr K C f) (hl : fs.length < 1000) (q : ∀ H', ExB p H H' → H' p = some (.ins C dx (putF f y fs)) → R H') :
    ∃ a C dx fs, V.ref p = .ref a ∧ H a = some (.ins C dx fs) ∧ Cls K C ∧ NoAttr K C f ∧ fs.length < 1000 ∧ R (upd H a (.ins C dx (putF f y fs))) := ⟨p, C, dx, fs, rfl, hp, c, n, hl, q _ ExB.upd upd_same⟩
theorem k_fldE {f : Str} {R : V → Prop} {v : V} (hp : H p = some (.ins C dx fs)) (c : Cls K C) (n : NoAttr K C f) (l : fs.lookup f = some v) (q : R v) :
    ∃ a C dx fs v, V.ref p = .ref a ∧ H a = some (.ins C dx fs) ∧ Cls K C ∧ NoAttr K C f ∧ fs.lookup f = some v ∧ R v := ⟨p, C, dx, fs, v, rfl, hp, c, n, l, q⟩
end
theorem dstr (a b : Str) : decide (V.str a = V.str b) = decide (a = b) := by
  by_cases h : a = b
  · rw [decide_eq_true h, decide_eq_true (by rw [h])]
  · rw [decide_eq_false h, decide_eq_false (fun z => h (V.str.inj z))]
theorem dint (a b : Int) : decide (V.int a = V.int b) = decide (a = b) := by
  by_cases h : a = b
  · rw [decide_eq_true h, decide_eq_true (by rw [h])]
  · rw [decide_eq_false h, decide_eq_false (fun z => h (V.int.inj z))]
theorem dbl (a b : Bool) : decide (V.bl a = V.bl b) = decide (a = b) := by
  by_cases h : a = b
  · rw [decide_eq_true h, decide_eq_true (by rw [h])]
  · rw [decide_eq_false h, decide_eq_false (fun z => h (V.bl.inj z))]
theorem dref_non (a : Addr) : decide (V.ref a = V.non) = false := decide_eq_false fun z => nomatch z
theorem dint_non (a : Int) : decide (V.int a = V.non) = false := decide_eq_false fun z => nomatch z
theorem dnon_non : decide (V.non = V.non) = true := decide_eq_true rfl
/-! ### o.m(..) -/
theorem k_meth {C : Addr} {m : Str} {sp : Sp} {E : XK} {ta : TE} {t : TA} {σ : L2.St} {H : Hp} {Q : VK} (h : ta σ H fun x H1 => ∃ a dx fs, x = .ref a ∧ H1 a = some (.ins C dx fs) ∧ fs.lookup m = none ∧ t σ H1 fun vs H2 => sp (x :: (vs ++ [])) H2 Q E) : tMeth C m sp [] E ta t σ H Q := h
/-! ### C(..) -/
def MakeK (C : Addr) (sp : Sp) (E : XK) (Q : VK) (vs : List V) (H1 : Hp) : Prop := ∀ x dx, H1 x = none → H1 dx = none → dx ≠ x → sp (.ref x :: (vs ++ [])) (upd (upd H1 dx (.own x)) x (.ins C dx [])) (fun v H2 => v = .non ∧ Q (.ref x) H2) E
theorem k_make {C : Addr} {sp : Sp} {E : XK} {t : TA} {σ : L2.St} {H : Hp} {Q : VK} (h : t σ H fun vs H1 => MakeK C sp E Q vs H1) : tMake C sp [] E t σ H Q := h
theorem MakeK.of {C : Addr} {sp : Sp} {E : XK} {Q : VK} {vs : List V} {H1 : Hp} (h : ∀ x H2 dx, H1 x = none → Ex H1 H2 → H2 x = some (.ins C dx []) → sp (.ref x :: vs) H2 (fun v H3 => v = .non ∧ Q (.ref x) H3) E) : MakeK C sp E Q vs H1 := fun x dx hx hd hn => by
  rw [List.append_nil]
  exact h x _ dx hx ((Ex.new hd).trans (Ex.new (by rw [upd_ne (Ne.symm hn)]; exact hx))) upd_same
end L3
end

section
/-! Law-independent layer 5: own exceptions whose __init__(self, address) says super().__init__(f'..{address}'), self.address = address -/
namespace PySem
namespace SupX
open PySem.W PySem.HandSPX Calls PyProof.Rows PySem.Spec
def supB (pre : Str) (a1 a2 a3 a4 a5 a6 a7 a8 a9 a10 a11 a12 a13 : Pos) : List Stmt :=
  [.Expr (.Call (.Attribute (.Call (.Name "super" a1) [] [] a2) "__init__" a3) [.JoinedStr [.Constant (.str pre) 0 a4, .FormattedValue (.Name "address" a5) (-1) none a6] a7] [] a8) a9,
   .Assign [.Attribute (.Name "self" a10) "address" a11] (.Name "address" a12) a13]
def supS : Scope := { kind := .function, names := [("self", .local), ("address", .local), ("__class__", .free), ("super", .globalImplicit)], isGenerator := false, isCoroutine := false, more := [] }
def supA (p1 p2 : Pos) : Arguments := { posonlyargs := [], args := [{ arg := "self", annotation := none, pos := p1 }, { arg := "address", annotation := none, pos := p2 }], vararg := none, kwonlyargs := [], kw_defaults := [], kwarg := none, defaults := [] }
/-- the call stands on one line -/
def SupLine (pre : Str) (a1 a2 a3 a4 a5 a6 a7 a8 : Pos) : Prop := ∀ env : Env, ∃ pl : Sem Bool, eval (.Call (.Attribute (.Call (.Name "super" a1) [] [] a2) "__init__" a3) [.JoinedStr [.Constant (.str pre) 0 a4, .FormattedValue (.Name "address" a5) (-1) none a6] a7] [] a8) env = (do
      let ov ← attributeBase (.Call (.Name "super" a1) [] [] a2) "__init__" env (eval (.Call (.Name "super" a1) [] [] a2) env)
      standAt a3.atName
      let (f, first) ← holding [ov] (getMethod ov "__init__" pl)
      callWith a8 f first (backTo a8 (starEach [.JoinedStr [.Constant (.str pre) 0 a4, .FormattedValue (.Name "address" a5) (-1) none a6] a7] env)) [])
/-- what the written part says of such a class -/
structure SupTxt (P : Program) (K : Frag) (mg : Str → Option Value) (C : Addr) (x pre : Str) : Prop where
  gC : mg x = some (.ref C)
  cls : ∃ nm q N bs bm sn sub ab col dd k0 k1 k2 k3 k5, K.lookup C = some (excClassObj nm q C N bs bm true sn sub ab col dd k0 k1 k2 k3 k5 "ValueError.__new__") ∧ refsVE bm = true
  sa : findIn K (.ref C) "__setattr__" = some (some (.builtin "object.__setattr__"))
  noN : findIn K (.ref C) "address" = some none
  kC : keepIn K (.ref C) = true
  exC : subIn K (.ref C) (.type "BaseException") = some true
  veC : subIn K (.ref C) (.type "ValueError") = some true
  slf : mroIn K C (.ref C) = some true
  tyC : typeIn K (.ref C) = some (.type "type")
  sup : ks_superIn K C C "__init__" = some (some (.builtin "ValueError.__init__"))
  dead : nsIn K cStatics "thirdparty.any" = some none
  gs : mg "super" = none
  top : (P.main.scope.names.lookup ("super" : Str)).isSome = false
  fn : ∃ (fI cc cda : Addr) (oc : Value) (od : Option Addr) (doc pm : Value) (an : Option Addr) (ct : Value) (osl : Array (Option Value)) (p1 p2 a1 a2 a3 a4 a5 a6 a7 a8 a9 a10 a11 a12 a13 : Pos) (vs : Array Value) (file : Str) (tf : Tok) (ccl : Value) (cdd : Option Addr) (ccs : Array (Option Value)) (cl : Value) (cld : Option Addr) (csl : Array (Option Value)) (qual : Str),
    findIn K (.ref C) "__init__" = some (some (.ref fI)) ∧ typeIn K (.ref fI) = some (.type "function") ∧
    K.lookup fI = some ⟨oc, od, .func (ksFn "__init__" qual (supA p1 p2) (supB pre a1 a2 a3 a4 a5 a6 a7 a8 a9 a10 a11 a12 a13) supS .none .none doc pm an (.ref cda) ct cc), osl⟩ ∧ codeIn K (.ref cda) qual = true ∧
    K.lookup cda = some ⟨ccl, cdd, .fields vs, ccs⟩ ∧ vs[2]? = some (.str file tf) ∧ ((P.main.file : Str) == file) = true ∧ K.lookup cc = some ⟨cl, cld, .cell (some (.ref C)), csl⟩ ∧ SupLine pre a1 a2 a3 a4 a5 a6 a7 a8
/-- what __init__ leaves of a fresh exception at x -/
structure InitEnd (h h' : Heap) (x C dx t1 : Addr) (v : Value) : Prop where
  keep : ∀ b o, b ≠ x → h.get? b = some o → h'.get? b = some o
  obj : h'.get? x = some { cls := .ref C, dict := some dx, data := .fields #[.ref t1, .none, .none, .none, .bool false, .none] }
  dbig : h.objs.size ≤ dx
  dne : dx ≠ x
  ns : h'.Ns1 dx (fun y => if y = "address" then some v else none)
theorem ldS {M : Model} {s : Shared} {name : Str} {scope : Scope} {L a : Addr} {cd : Value} {cells : List (Str × Addr)} {m : Str → Option Value} {x : Str} {pos : Pos} {v : Value} {Q : Value → Shared → Prop} {A : Around} {E : Value → Shared → Prop} (hn : s.heap.Ns L m) (hv : m x = some v) (h : Q v s)
    (hk : scope.kind = .function := by rfl) (hl : (envX name scope L a cd cells).kindOf x = some .local := by rfl) (hd : (x == ("__debug__" : Str)) = false := by decide) :
    wpAny M A (eval (.Name x pos) (envX name scope L a cd cells)) Q E s := wpAny_Name (wpAny_loadName_local hk hl hn hv h) hd
section
variable {prog : Program} {w : World} {A : Around} {E : Value → Shared → Prop} {R : Result → Shared → Prop} {s : Shared} {K : Frag} {mg : Str → Option Value} {C : Addr} {x pre : Str} {base : Heap}
/-- the bound __init__ of ValueError called -/
theorem call_mw {h : Heap} {g : Array GenState} {d : Drawn} {t : Nat} {os : OsState} {u e t0 : Addr} {rest : List Value} {Q : Value → Shared → Prop} {nm q : Str} {C N : Addr} {bs bm : List Value} {sn : List Str} {sub : List Value} {ab : Bool} {col : Option Bool} {dd : Option Addr} {k0 k1 k2 k3 k5 : Option Value}
    (hu : h.get? u = some (kxs_mw "ValueError.__init__" e)) (hC : h.get? C = some (excClassObj nm q C N bs bm true sn sub ab col dd k0 k1 k2 k3 k5 "ValueError.__new__")) (he : h.get? e = some (excO C t0)) (hz : rest.length ≤ sizeLine)
    (hq : ∀ h' t1, (∀ b o, b ≠ e → h.get? b = some o → h'.get? b = some o) → h'.get? e = some (excO C t1) → Q .none ⟨h', g, d, t, os⟩) :
    wpAny (model prog w) A (call (.ref u) rest) Q E ⟨h, g, d, t, os⟩ := by
  refine wpAny_call (codeAny_of_tree ?_)
  show wpAny _ A.in1 (callAny (.ref u) ⟨rest, []⟩) _ _ _
  simp only [callAny]
  refine wpAny_bind (wpAny_load hu ?_)
  simp only [kxs_mw, show (Value.type "method-wrapper" == Value.type "method" || Value.type "method-wrapper" == Value.type "builtin_function_or_method" || Value.type "method-wrapper" == Value.type "method-wrapper") = true by decide, if_true]
  refine KFB.if_so (by decide) ?_
  refine wpAny_bind (check_bound_init F.excBase_ValueError.toExcCallFacts hC he rfl ?_)
  refine wpAny_bind (wpAny_pure (wpAny_pure ?_))
  refine ⟨plainId_quiet F.excBase_ValueError.init.plain _, codeAny_builtin F.excBase_ValueError.initEntry ?_⟩
  exact exc_init_tree (cls := .ref C) (t0 := t0) (dv := none) (c2 := .none) (c3 := .none) (b4 := .bool false) he hz fun h' k e' _ => hq h' _ k e'
theorem sup_init (T : SupTxt prog K mg C x pre) (M : L2.Mod K mg base) {i : Int} {tk0 : Tok} {xe t0 fI : Addr} (bk : ∀ b o, base.get? b = some o → s.heap.get? b = some o) (hlim : s.heap.NoLimit) (hx : s.heap.get? xe = some (excO C t0)) (hnx : base.get? xe = none) (hroom : A.depth < recursionLimit)
    (hf : findIn K (.ref C) "__init__" = some (some (.ref fI))) (hi : i.natAbs.log2 < 1920) (hpre : pre.length ≤ 1000)
    (hq : ∀ h' tk dx t1, InitEnd s.heap h' xe C dx t1 (.int i tk0) → R (.ok (.ret .none)) { s with heap := h', toks := tk }) :
    codeAny (model prog w) A (.call (.ref fI) ⟨[.ref xe, .int i tk0], []⟩) R s := by
  obtain ⟨fI', cc, cda, oc, od, doc, pm, an, ct, osl, p1, p2, a1, a2, a3, a4, a5, a6, a7, a8, a9, a10, a11, a12, a13, vs, file, tf, ccl, cdd, ccs, cl, cld, csl, qual, g1, g2, g3, g4, g5, g6, g7, g8, gL⟩ := T.fn
  obtain rfl : fI = fI' := by
    rw [hf] at g1
    exact Value.ref.inj (Option.some.inj (Option.some.inj g1))
  obtain ⟨nm, q, N, bs, bm, sn, sub, ab, col, dd, k0, k1, k2, k3, k5, hC, hbm⟩ := T.cls
  have hcl : clsIn K C = some { name := nm, bases := bs, mro := .ref C :: bm, ns := N, qualname := q, hasDict := true, slotNames := sn, subclasses := sub, abstract := ab, collection := col, hasDel := false } := by unfold clsIn; rw [hC] <;> rfl
  have X : K.In s.heap := M.kin.keeps bk
  refine ks_codeAny_call_defAt (fd := ksFn "__init__" qual (supA p1 p2) (supB pre a1 a2 a3 a4 a5 a6 a7 a8 a9 a10 a11 a12 a13) supS .none .none doc pm an (.ref cda) ct cc) (body := supB pre a1 a2 a3 a4 a5 a6 a7 a8 a9 a10 a11 a12 a13) (binds := [("self", .ref xe), ("address", .int i tk0)])
    hroom (X _ _ g3) rfl hlim (codeRec_of X g4) rfl (BindsTo.of_eq (by first | rfl | with_unfolding_all rfl)) (show ∀ x ∈ supS.names, x.2 ≠ .cell by decide) (fun y hy => by
      rcases List.mem_cons.mp hy with rfl | hy
      · with_unfolding_all rfl
      · rcases List.mem_cons.mp hy with rfl | hy
        · with_unfolding_all rfl
        · cases hy) (fun h₁ hn k => ?_) rfl rfl rfl
  have X₁ : K.In h₁ := X.keeps k
  have hx₁ := k _ _ hx
  have bk₁ : ∀ b o, base.get? b = some o → h₁.get? b = some o := fun b o e => k b o (bk b o e)
  obtain ⟨pl, he⟩ := gL (ksEnv qual supS s.heap.objs.size fI (.ref cda) cc)
  have hsub : Looks (model prog w) h₁ (isSubtype (.ref C) (.ref C)) true := looks_mroIn X₁ T.slf
  have hI : Looks (model prog w) h₁ (isInstance (.ref xe) (.type "ValueError")) true := by
    have I : InstAt h₁ xe (excO C t0) C none := ⟨hx₁, rfl, rfl, trivial⟩
    exact I.type.andThen (looks_subIn X₁ T.veC)
  obtain ⟨mb, hb1, hb2⟩ := M.blt
  refine ks_wpAt_execs_cons (ks_wpAt_Expr_any (ks_wpAt_MethodCall ?_ he))
  refine ks_wpAt_super_base (env := ksEnv qual supS s.heap.objs.size fI (.ref cda) cc) (by with_unfolding_all rfl) (by with_unfolding_all rfl) (by decide) rfl (X₁ _ _ g3) rfl rfl rfl (X₁ _ _ g5) rfl g6 g7 T.top ?_
  refine ks_loadName_global rfl (by with_unfolding_all rfl) (loadGlobal_builtin (env := ksEnv qual supS s.heap.objs.size fI (.ref cda) cc) (M.glob.keeps bk₁) T.gs (hb1.keeps bk₁) ((hb2 _ (by decide)).trans (show bootBuiltins "super" = some (.type "super") by decide +kernel)) ⟨rfl, ?_⟩)
  refine wpAny_loadName_free (env := ksEnv qual supS s.heap.objs.size fI (.ref cda) cc) rfl (by with_unfolding_all rfl) rfl ⟨_, X₁ _ _ g8, rfl⟩ ?_
  refine wpAny_loadName_local (v := .ref xe) rfl (by with_unfolding_all rfl) hn (by with_unfolding_all rfl) ?_
  have hCh := X₁ _ _ hC
  refine ks_wpAny_isType_cls hCh rfl ⟨rfl, ?_⟩
  refine ks_wpAny_call_super hCh rfl hx₁ rfl (fun c e => nomatch e) hsub (fun h₂ e₂ k₂ => ?_)
  have X₂ : K.In h₂ := X₁.keeps k₂
  have hsup := T.sup
  unfold ks_superIn at hsup
  rw [hcl] at hsup
  have hne : xe ≠ C := fun z => by
    rw [z, hCh] at hx₁
    cases hx₁
  refine kxs_getMethod kxs_ValueError e₂ (looks_opaque X₂ T.dead) (l₀ := .ref C :: bm) (fun A Q E s k q => wpAny_bind ((looks_clsIn X₂ hcl) A _ E s k (wpAny_pure q))) rfl X₂ hsup (hI.keeps k₂) hne (by decide) ?_
  -- the argument
  have em : ∀ (b : Addr) (o : Obj), h₂.get? b = some o → (h₂.push (kxs_mw "ValueError.__init__" xe)).get? b = some o := fun b o e => Heap.get?_push_of_some _ e
  have emw : (h₂.push (kxs_mw "ValueError.__init__" xe)).get? h₂.objs.size = some (kxs_mw "ValueError.__init__" xe) := Heap.get?_push_at rfl rfl
  have hn₃ : (h₂.push (kxs_mw "ValueError.__init__" xe)).Ns s.heap.objs.size (fun x => [(("self" : Str), Value.ref xe), (("address" : Str), Value.int i tk0)].reverse.lookup x) := (hn.keeps k₂).keeps em
  have hx₃ := em _ _ (k₂ _ _ hx₁)
  have X₃ : K.In (h₂.push (kxs_mw "ValueError.__init__" xe)) := X₂.keeps em
  have k₃ : ∀ b o, s.heap.get? b = some o → (h₂.push (kxs_mw "ValueError.__init__" xe)).get? b = some o := fun b o e => em _ _ (k₂ _ _ (k _ _ e))
  have hsz : h₂.objs.size < (h₂.push (kxs_mw "ValueError.__init__" xe)).objs.size := by rw [Heap.size_push]; exact Nat.lt_succ_self _
  generalize h₂.push (kxs_mw "ValueError.__init__" xe) = h₃ at em emw hn₃ hx₃ X₃ k₃ hsz
  have hlen := int_text_length_le (k := 1920) (by decide) hi
  have hA : (Str.empty ++ pre).length ≤ sizeLine := by rw [Str.length_append, sizeLine_eq]; show 0 + _ ≤ _; omega
  have hB : (Str.empty ++ pre ++ Str.ofString (toString i)).length ≤ sizeLine := by rw [Str.length_append, Str.length_append, ofString_length, sizeLine_eq]; show 0 + _ + _ ≤ _; omega
  refine kxs_callWith (i := "ValueError.__init__") (x := xe) rfl (evalArgs_plain (spliced_cons (wpAny_JoinedStr (pos := a7) ?_)))
  refine wpAny_Constant_str (k := 0) (pos := a4) ⟨pre, _, rfl, hA, wpAny_FormattedValue_plain (pos := a6) (ldS (pos := a5) (v := .int i tk0) hn₃ (by with_unfolding_all rfl) (wpAny_formatField_int hi ⟨_, _, rfl, hB, ⟨hB, spliced_nil ⟨emw, ?_⟩⟩⟩) rfl (by with_unfolding_all rfl))⟩
  refine call_mw emw (X₃ _ _ hC) hx₃ (show 1 ≤ sizeLine by rw [sizeLine_eq]; decide) (fun h₄ t1 k₄ hx₄ => ?_)
  -- self.address = address
  have notX : ∀ b o, K.lookup b = some o → b ≠ xe := fun b o e z => by
    have := M.kin _ _ e
    rw [z, hnx] at this
    cases this
  have X₄ : K.In h₄ := fun b o e => k₄ b o (notX b o e) (X₃ b o e)
  have hLx : s.heap.objs.size ≠ xe := Nat.ne_of_gt (Heap.lt_size hx)
  obtain ⟨oL, es, ep, hL, hLr⟩ := hn₃
  have hn₄ : h₄.Ns s.heap.objs.size (fun x => [(("self" : Str), Value.ref xe), (("address" : Str), Value.int i tk0)].reverse.lookup x) := ⟨oL, es, ep, k₄ _ _ hLx hL, hLr⟩
  refine ks_wpAt_execs_cons (ks_wpAt_Assign_Attr ?_)
  have e1 : (fun x => [(("self" : Str), Value.ref xe), (("address" : Str), Value.int i tk0)].reverse.lookup x) "address" = some (.int i tk0) := by with_unfolding_all rfl
  have e2 : (fun x => [(("self" : Str), Value.ref xe), (("address" : Str), Value.int i tk0)].reverse.lookup x) "self" = some (.ref xe) := by with_unfolding_all rfl
  have e3 : (ksEnv qual supS s.heap.objs.size fI (.ref cda) cc).kindOf "address" = some .local := by with_unfolding_all rfl
  have e4 : (ksEnv qual supS s.heap.objs.size fI (.ref cda) cc).kindOf "self" = some .local := by with_unfolding_all rfl
  refine wpAt_of_wpAny ?_
  refine ldS hn₄ e1 ?_ (show supS.kind = .function from rfl) e3
  refine ldS hn₄ e2 ?_ (show supS.kind = .function from rfl) e4
  refine set_plain X₄ (ox := excO C t1) (od := none) ⟨hx₄, rfl, rfl, trivial⟩ T.sa ?_
  refine exc_osa X₄ hx₄ hcl (show refsVE (.ref C :: bm) = true from hbm) rfl T.noN (fun h₅ tk₅ dx k₅ dn dne hx₅ hn₅ => ?_)
  refine wpAt_of_wpAny (wpAny_execs_nil (hq h₅ tk₅ dx t1 ⟨fun b o hb e => k₅ b o hb (k₄ b o hb (k₃ b o e)), hx₅, ?_, dne, hn₅⟩))
  have z : s.heap.objs.size < h₄.objs.size := hn₄.lt
  exact Nat.le_of_lt (Nat.lt_of_lt_of_le z dn)
end
end SupX
end PySem
end

section
/-! Law-independent layer 6: such an exception made, raised -/
namespace PySem
namespace SupX
open PySem.W PySem.HandSPX Calls PyProof.Rows PySem.Spec
theorem one_size (v : Value) : [v].length ≤ sizeLine := by
  rw [sizeLine_eq]
  exact (by decide : 1 ≤ 16777216)
structure OwnMade (h h' : Heap) (e C d : Addr) (v : Value) : Prop where
  keep : ∀ b o, h.get? b = some o → h'.get? b = some o
  new : h.objs.size ≤ e
  obj : ∃ t1 : Addr, h'.get? e = some { cls := .ref C, dict := some d, data := .fields #[.ref t1, .none, .none, .none, .bool false, .none] }
  dbig : h.objs.size ≤ d
  dne : d ≠ e
  ns : h'.Ns1 d (fun y => if y = "address" then some v else none)
section
variable {prog : Program} {w : World} {A : Around} {E : Value → Shared → Prop} {R : Result → Shared → Prop} {s : Shared} {K : Frag} {mg : Str → Option Value} {C : Addr} {x pre : Str} {base : Heap}
theorem sup_made (T : SupTxt prog K mg C x pre) (M : L2.Mod K mg base) {i : Int} {tk0 : Tok} (bk : ∀ b o, base.get? b = some o → s.heap.get? b = some o) (hlim : s.heap.NoLimit) (hroom : A.depth + 1 < recursionLimit) (hi : i.natAbs.log2 < 1920) (hpre : pre.length ≤ 1000)
    (hq : ∀ h' tk e d, OwnMade s.heap h' e C d (.int i tk0) → R (.ok (.ret (.ref e))) { s with heap := h', toks := tk }) :
    codeAny (model prog w) A (.call (.ref C) ⟨[.int i tk0], []⟩) R s := by
  obtain ⟨nm, q, N, bs, bm, sn, sub, ab, col, dd, k0, k1, k2, k3, k5, hC, hbm⟩ := T.cls
  obtain ⟨fI, cc, cda, oc, od, doc, pm, an, ct, osl, p1, p2, a1, a2, a3, a4, a5, a6, a7, a8, a9, a10, a11, a12, a13, vs, file, tf, ccl, cdd, ccs, cl, cld, csl, qual, g1, g2, g3, g4, g5, g6, g7, g8, gL⟩ := T.fn
  have X : K.In s.heap := M.kin.keeps bk
  obtain ⟨hp, g, dr, tk, os⟩ := s
  have k : ∀ b o, hp.get? b = some o → ((hp.push (kdv_tup [Value.int i tk0])).push (excO C hp.objs.size)).get? b = some o := fun b o e => Heap.get?_push_of_some _ (Heap.get?_push_of_some _ e)
  have hget : ((hp.push (kdv_tup [Value.int i tk0])).push (excO C hp.objs.size)).get? (hp.objs.size + 1) = some (excO C hp.objs.size) := by heap_get
  have hnx : base.get? (hp.objs.size + 1) = none := by
    cases e : base.get? (hp.objs.size + 1) with
    | none => rfl
    | some o =>
      have z : hp.get? (hp.objs.size + 1) = some o := bk _ _ e
      exact absurd (Nat.lt_of_succ_lt (Heap.lt_size z)) (Nat.lt_irrefl _)
  refine call_own F.excBase_ValueError (fun X => refsVE_contains X bm hbm) (X _ _ hC) (looks_findIn X g1) (fun self => bind_fn X self g2) (one_size _) ?_
  refine sup_init (s := ⟨(hp.push (kdv_tup [Value.int i tk0])).push (excO C hp.objs.size), g, dr, tk, os⟩) T M (fun b o e => k b o (bk b o e)) (hlim.keeps k) hget hnx ?_ g1 hi hpre fun h' tk' dx t1 ⟨k', hx, dn, dne, hns⟩ => ?_
  · show A.depth + 1 < recursionLimit
    exact hroom
  · have old : ∀ b o, hp.get? b = some o → h'.get? b = some o := fun b o e => k' b o (Nat.ne_of_lt (Nat.lt_succ_of_lt (Heap.lt_size e))) (k b o e)
    have z : hp.objs.size + 1 + 1 ≤ dx := by
      first
        | (simpa only [Heap.size_push] using dn)
        | exact dn
        | (have q := dn; rw [Heap.size_push, Heap.size_push] at q; exact q)
    exact ⟨rfl, hq h' tk' (hp.objs.size + 1) dx ⟨old, Nat.le_succ _, ⟨t1, hx⟩, Nat.le_trans (Nat.le_trans (Nat.le_succ _) (Nat.le_succ _)) z, dne, hns⟩⟩
end
end SupX
end PySem
namespace L3
open PySem PySem.Spec PyProof.Rows L2
/-- the dict of such an exception -/
def xdA (i : Int) : HO := .xd [(("address" : Str), V.int i)]
theorem relO_addr {v : V} {v' : Value} (r : RelV v v') (f : Str) : RelO (List.lookup f [(("address" : Str), v)]) (if f = "address" then some v' else none) := by
  by_cases hw : f = "address"
  · subst hw
    rw [if_pos rfl]
    have q : List.lookup ("address" : Str) [(("address" : Str), v)] = some v := by simp [List.lookup]
    rw [q]
    exact r
  · rw [if_neg hw]
    have qw : (f == ("address" : Str)) = false := by simpa using hw
    have q2 : List.lookup f [(("address" : Str), v)] = none := by simp [List.lookup, qw]
    rw [q2]
    trivial
section
variable {X : Cx} {C : Addr} {x pre : Str}
/-- C(e) -/
def tMkSup (C : Addr) (ta : TA) : L2.St → Hp → XK → Prop := fun σ H Q => ta σ H fun vs H1 => ∃ i : Int, vs = [V.int i] ∧ i.natAbs.log2 < 1920 ∧ ∀ d, H1 d = none → Q (.ref C) (some d) (upd H1 d (xdA i))
theorem pmk_sup {a : Expr} {ta : TA} {p pos : Pos} {k : Nat} (T : PySem.SupX.SupTxt X.prog X.K X.mg C x pre) (hpre : pre.length ≤ 1000) (hr : Room k X.A) (ha : PA X [a] ta) (hg : Gl X x := by rfl) (hdb : (x == ("__debug__" : Str)) = false := by decide)
    (he : starEach (a :: []) X.env = (false, eval a X.env) :: starEach [] X.env := by rfl) (hpl : (backTo pos (starEach [] X.env)).any (·.1) = false := by rfl) :
    L2N.PMk X (.Call (.Name x p) [a] [] pos) (tMkSup C ta) := by
  intro pins s σ H Q I h
  refine wpAny_Call_Name_kw (ld_glob I hg T.gC ?_ hdb)
  refine PySem.W.callWith_K (h₀ := X.base) I.ok.mod.kin T.kC (thn (ha.run pos pins s σ H _ I h) fun us s1 hh => ?_) he hpl
  obtain ⟨vs, H1, I1, r1, i, ev, hi, q1⟩ := hh
  subst ev
  refine ⟨I1.kIn, ?_⟩
  cases r1 with
  | cons rv rn =>
    rename_i v' us'
    cases rn
    obtain ⟨tk0, rfl⟩ := rv
    show wpAny _ _ (call (.ref C) [.int i tk0]) _ _ _
    have hlim := I1.nolimit
    have bk := I1.bk
    have md := I1.mod
    obtain ⟨hp, g, dr, tk, os⟩ := s1
    refine wpAny_call (PySem.SupX.sup_made T md bk hlim (by have := hr.dp; show X.A.depth + 1 < _; omega) hi hpre fun h' tk' e d M => ?_)
    show L2N.MkP X pins σ Q (.ref e) ⟨h', g, dr, tk', os⟩
    obtain ⟨t1, hoe⟩ := M.obj
    have hns := M.ns
    obtain ⟨G', g1, g2⟩ := restrict h' fun b => decide (b ≠ e)
    have gk : ∀ b, b ≠ e → G'.get? b = h'.get? b := fun b hb => g1 b (decide_eq_true hb)
    have ge : G'.get? e = none := g2 e (by simp)
    have old : ∀ b o, hp.get? b = some o → G'.get? b = some o := fun b o q => (gk b (Nat.ne_of_lt (Nat.lt_of_lt_of_le (Heap.lt_size q) M.new))).trans (M.keep b o q)
    have ob : ObjOk X.prog X.w (upd H1 d (xdA i)) G' d (xdA i) :=
      ⟨_, hns.at (fun o q => (gk d M.dne).trans q), fun f => relO_addr (v := .int i) ⟨tk0, rfl⟩ f⟩
    have J : Inv X pins σ (upd H1 d (xdA i)) ⟨G', g, dr, tk', os⟩ := I1.laid (t' := tk') old M.dbig ob
    refine ⟨e, _, _, ⟨G', g, dr, tk', os⟩, _, .ref C, some d, rfl, J, fun b o q => ?_, ge, hoe, ⟨rfl, rfl, fun vs e => by cases e; rfl⟩, rfl, rfl, ?_, rfl, I1.bare, raises_own T.exC T.tyC, q1 d (I1.hok.fresh M.dbig)⟩
    · by_cases hb : b = e
      · have q' : G'.get? b = some o := q
        rw [hb, ge] at q'; cases q'
      · exact (gk b hb).symm.trans q
    · rw [upd_ne (Ne.symm M.dne)]
      exact I1.hok.fresh M.new
end
end L3
namespace L3
open PySem PySem.Spec PyProof.Rows L2
/-- C(), C without an __init__ of its own -/
theorem pmk_own0 {X : Cx} {C : Addr} {bmB : List Value} {B newId initId : String} {x : Str} {p pos : Pos} (F : ExcBaseFacts B newId initId bmB) (q : PySem.W.excIn X.K C bmB newId = true) (gC : X.mg x = some (.ref C)) (kC : PySem.W.keepIn X.K (.ref C) = true) (r : Raises X (.ref C)) (hg : Gl X x)
    (hdb : (x == ("__debug__" : Str)) = false := by decide) : L2N.PMk X (.Call (.Name x p) [] [] pos) (fun _ H Q => Q (.ref C) none H) := by
  intro pins s σ H Q I h
  refine wpAny_Call_Name_kw (ld_glob I hg gC ?_ hdb)
  refine PySem.W.callWith_K0 I.kIn kC ?_
  show wpAny _ _ (call (.ref C) []) _ _ _
  obtain ⟨bm, N, nm, qn, bs, hdct, sn, sub, ab, col, dd, k0, k1, k2, k3, k5, mN, hC, hN, hni, T⟩ := exc_obj I.kIn q
  refine wpAny_call_exc_subT F T hC hN hni (fun h' e hm => ?_) (by show 0 ≤ sizeLine; exact Nat.zero_le _)
  exact L2N.mk_of I hm r h (I.hok.gone hm.new)
end L3
end

section
/-! Law-independent layer 7: operators of own classes -/
namespace L3
open PySem PySem.Spec PyProof.Rows L2
section
variable {X : Cx} {CX : CXT} {k j : Nat} {C : Addr} {m : Str} {ps : List Str} {sp : Sp} {E : XK}
def rOwn (C : Addr) (sp : Sp) (E : XK) (ok : V → Prop) : R2 := fun x y H Q => ∃ a b dx dy fs gs, x = V.ref a ∧ y = V.ref b ∧ H a = some (.ins C dx fs) ∧ H b = some (.ins C dy gs) ∧ sp [.ref a, .ref b] H (fun v H' => ok v ∧ Q v H') E
def isRef (v : V) : Prop := ∃ a, v = .ref a
def isBl (v : V) : Prop := ∃ b, v = .bl b
theorem own_call {ok : V → Prop} (hok : ∀ v u, ok v → RelV v u → u ≠ .notImplemented) (cm : Met X.prog X.w X.K X.mg X.base CX k C m ps sp) (hr : Room j X.A) (hk : k ≤ j) (hx : Passes CX X E) {pins : List (Addr × Obj)} {s : Shared} {σ : L2.St} {H : Hp} {Q : VK} {a b : Addr} (I : Inv X pins σ H s)
    (h : sp [.ref a, .ref b] H (fun v H' => ok v ∧ Q v H') E) :
    ∃ f, Meth X.K C m f ∧ wpAny (model X.prog X.w) X.A (call (.ref f) [.ref a, .ref b]) (PySem.W.CmpBack (EP X pins σ Q)) X.xe s := by
  obtain ⟨f, fd, F, M, hb⟩ := cm.ok
  refine ⟨f, M, ?_⟩
  have hl := F.len _ _ _ _ h
  have r2 : Vals [V.ref a, V.ref b] [Value.ref a, Value.ref b] := .cons rfl (.cons rfl .nil)
  refine wpAny_call (codeAny_mono (F.run X.A X.stack s H ⟨[.ref a, .ref b], []⟩ [.ref a, .ref b] [.ref a, .ref b] _ E (hr.mono hk) I.env0 (by
    have := hb s [.ref a, .ref b] I.kIn (by simpa using hl)
    simpa using this) r2 h) fun r s' hq => ?_)
  cases r with
  | error e => exact hx pins σ H s e s' I hq
  | ok fl =>
    cases fl with
    | ret w =>
      obtain ⟨z, H', I', rz, oz, q⟩ := I.after hq
      have hn := hok z w oz rz
      have fin : EP X pins σ Q w s' := ⟨z, H', I', rz, q⟩
      cases w <;> first | exact absurd rfl hn | exact fin
    | next => exact False.elim hq
    | brk => exact False.elim hq
    | cont => exact False.elim hq
theorem isRef_ok (v : V) (u : Value) (h : isRef v) (r : RelV v u) : u ≠ .notImplemented := by
  obtain ⟨a, rfl⟩ := h
  cases r
  exact fun e => nomatch e
theorem isBl_ok (v : V) (u : Value) (h : isBl v) (r : RelV v u) : u ≠ .notImplemented := by
  obtain ⟨a, rfl⟩ := h
  cases r
  exact fun e => nomatch e
theorem op_own {op : Operator} (cm : Met X.prog X.w X.K X.mg X.base CX k C (PySem.dunder op.info.2) ps sp) (sf : PySem.W.selfFirst X.K C = true) (hr : Room j X.A) (hk : k ≤ j) (hx : Passes CX X E) : OpR X (binaryOp op) (rOwn C sp E isRef) := by
  intro pins s σ H x y v u Q I rx ry h
  obtain ⟨a, b, dx, dy, fs, gs, rfl, rfl, ha, hb, h⟩ := h
  cases rx
  cases ry
  obtain ⟨mA, J, _⟩ := ins_get I.hok ha
  obtain ⟨mB, J', _⟩ := ins_get I.hok hb
  obtain ⟨od, J, _⟩ := J.look
  obtain ⟨od', J', _⟩ := J'.look
  obtain ⟨m, hF⟩ := I.fr
  obtain ⟨f, M, hc⟩ := own_call isRef_ok cm hr hk hx I h
  exact PySem.W.binop_K hF I.ok.mod.kin J J'.type sf M.at_ M.fn hc
theorem op_ownEq (cm : Met X.prog X.w X.K X.mg X.base CX k C "__eq__" ps sp) (hr : Room j X.A) (hk : k ≤ j) (hx : Passes CX X E) : OpR X (compareOp .Eq) (rOwn C sp E isBl) := by
  intro pins s σ H x y v u Q I rx ry h
  obtain ⟨a, b, dx, dy, fs, gs, rfl, rfl, ha, hb, h⟩ := h
  cases rx
  cases ry
  obtain ⟨mA, J, _⟩ := ins_get I.hok ha
  obtain ⟨mB, J', _⟩ := ins_get I.hok hb
  obtain ⟨od, J, _⟩ := J.look
  obtain ⟨od', J', _⟩ := J'.look
  obtain ⟨m, hF⟩ := I.fr
  obtain ⟨f, M, hc⟩ := own_call isBl_ok cm hr hk hx I h
  show wpAny (model X.prog X.w) X.A (richCompare .Eq (.ref a) (.ref b)) (EP X pins σ Q) X.xe s
  exact PySem.W.cmp_K (op := .Eq) (tb := .ref C) hr.units0 hF I.ok.mod.kin J J'.type (by simp [PySem.W.notFirst]) M.at_ M.fn hc
end
end L3
namespace L3
open PySem PySem.Spec PyProof.Rows L2
/-- a property, packed -/
structure Prp (P : Program) (w : World) (K : PySem.W.Frag) (mg : Str → Option Value) (base : Heap) (CX : CXT) (k : Nat) (C : Addr) (m : Str) (ps : List Str) (sp : Sp) : Prop where
  ok : ∃ p g fd, PropOf K C m p g ∧ FnOk P w K mg base CX k g fd ps sp ∧ Binds K fd ps []
theorem pe_prp {X : Cx} {CX : CXT} {k j : Nat} {C : Addr} {m : Str} {ps : List Str} {sp : Sp} {E : XK} {e : Expr} {ta : TE} {pos : Pos} (he : PE X e ta) (c : Cls X.K C) (pr : Prp X.prog X.w X.K X.mg X.base CX k C m ps sp) (hr : Room j X.A) (hk : k + 1 ≤ j) (hx : Passes CX X.nox E)
    (hab : attributeBase e m X.env (eval e X.env) = eval e X.env) : PE X (.Attribute e m pos) (tProp C sp [] E ta) := by
  obtain ⟨p, g, fd, hp, F, hb⟩ := pr.ok
  exact pe_prop he c hp F (hr.mono hk) hb .nil hx hab
theorem k_prop {C : Addr} {sp : Sp} {E : XK} {ta : TE} {σ : L2.St} {H : Hp} {Q : VK} (h : ta σ H fun x H1 => ∃ a dx fs, x = .ref a ∧ H1 a = some (.ins C dx fs) ∧ sp [.ref a] H1 Q E) : tProp C sp [] E ta σ H Q := h
end L3
end

section
/-! Law-independent layer 8: a Hook that tells functions at any address too (an exception's __init__ with its closure, a property's getter), and the class statics -/
namespace L3
open PySem PySem.Spec PyProof.Rows L2 He
abbrev FnS : Type := Option (Str × Str × Arguments × FuncBody × Scope × Addr × List Str × Addr)
def fnS (K : PySem.W.Frag) (a : Addr) : FnS := match K.lookup a with
  | some ⟨_, _, .func fd, _⟩ => some (fd.name, fd.qualname, fd.params, fd.body, fd.scope, fd.globals, fd.closure.map (·.1), fd.builtins)
  | _ => none
/-- a function: where it stands, its text, the names it closes over -/
structure Sd where
  at_ : PySem.W.Frag → Addr
  name : Str
  qual : Str
  params : Arguments
  body : List Stmt
  scope : Scope
  cl : List Str
def Sd.val (d : Sd) : FnS := some (d.name, d.qual, d.params, .stmts d.body, d.scope, mainGlobals, d.cl, builtinsNs)
def asS (g : Addr → Option Obj) (n : Nat) : List Addr := cStatics :: asD g n
def frS (g : Addr → Option Obj) (n : Nat) : PySem.W.Frag := frG g (asS g n)
abbrev AlS : Type := AlD × Bool × List FnS
def obsS (n : Nat) (fa : List Fa) (fn : List DefD) (fs : List Sd) (ex : PySem.W.Frag → Bool) (g : Addr → Option Obj) : AlS := (obsD fa fn (frS g n), ex (frS g n), fs.map fun d => fnS (frS g n) (d.at_ (frS g n)))
def valS (fn : List DefD) (fs : List Sd) : AlS := (valD fn, true, fs.map Sd.val)
structure SaysS (fa : List Fa) (fn : List DefD) (fs : List Sd) (ex : PySem.W.Frag → Bool) (K : PySem.W.Frag) : Prop where
  d : SaysD fa fn K
  more : ex K = true
  fs : fs.map (fun d => fnS K (d.at_ K)) = fs.map Sd.val
def hookS (n : Nat) (fa : List Fa) (fn : List DefD) (fs : List Sd) (ex : PySem.W.Frag → Bool) : PySem.W.Hook where
  α := AlS
  obs := fun s => obsS n fa fn fs ex s.heap.get?
  val := fun _ => valS fn fs
  says := fun _ h => ∃ K : PySem.W.Frag, K.In h ∧ SaysS fa fn fs ex K
  of := fun _ _ e => ⟨_, frG_in, congrArg (fun z : AlS => z.1) e, congrArg (fun z : AlS => z.2.1) e, congrArg (fun z : AlS => z.2.2) e⟩
  keeps := fun _ _ _ ⟨K, hK, c⟩ k => ⟨K, PySem.W.Frag.In.keeps hK k, c⟩
theorem obsS_eq {n : Nat} {fa : List Fa} {fn : List DefD} {fs : List Sd} {ex : PySem.W.Frag → Bool} {g : Addr → Option Obj} {s : Shared} (h : ∀ a, g a = s.heap.get? a) : obsS n fa fn fs ex g = (hookS n fa fn fs ex).obs s := by
  have e : g = s.heap.get? := funext h
  rw [e] <;> rfl
theorem SaysS.at_ {fa : List Fa} {fn : List DefD} {fs : List Sd} {ex : PySem.W.Frag → Bool} {K : PySem.W.Frag} (c : SaysS fa fn fs ex K) (i : Nat) {d : Sd} (h : fs[i]? = some d := by rfl) : fnS K (d.at_ K) = d.val := by
  have e := congrArg (fun l : List FnS => l[i]?) c.fs
  simp only [List.getElem?_map, h, Option.map_some] at e
  exact Option.some.inj e
/-- what such a function is -/
theorem fnS_at {K : PySem.W.Frag} {a : Addr} {d : Sd} (e : fnS K a = d.val) : ∃ (oc : Value) (od : Option Addr) (osl : Array (Option Value)) (cl : List (Str × Addr)) (dV kV doc pm : Value) (an : Option Addr) (cdv ct : Value),
    K.lookup a = some ⟨oc, od, .func (PySem.W.fnX d.name d.qual d.params d.body d.scope cl dV kV doc pm an cdv ct), osl⟩ ∧ cl.map (·.1) = d.cl := by
  unfold fnS at e
  cases q : K.lookup a with
  | none => rw [q] at e; cases e
  | some o =>
    obtain ⟨oc, od, dt, osl⟩ := o
    rw [q] at e
    cases dt with
    | func fd =>
      obtain ⟨n1, n2, n3, n4, n5, n6, n7, n8, n9, n10, n11, n12, n13, n14, n15⟩ := fd
      have e2 : (some (n1, n2, n3, n4, n5, n6, n7.map (·.1), n15) : FnS) = some (d.name, d.qual, d.params, .stmts d.body, d.scope, mainGlobals, d.cl, builtinsNs) := e
      simp only [Option.some.injEq, Prod.mk.injEq] at e2
      obtain ⟨h1, h2, h3, h4, h5, h6, h7, h8⟩ := e2
      subst h1 h2 h3 h4 h5 h6 h8
      exact ⟨oc, od, osl, n7, n8, n9, n10, n11, n12, n13, n14, rfl, h7⟩
    | _ => cases e
end L3
end

section
/-! Law-independent layer 9: the Booleans of an own exception class (SupTxt), told by the head -/
namespace L3
open PySem PySem.Spec PyProof.Rows L2 He PySem.W
def clsB (K : Frag) (C : Addr) : Bool := match K.lookup C with
  | some ⟨.type "type", _, .cls cd, sl⟩ => (match cd.mro, sl.toList with
    | .ref C' :: bm, [_, _, _, _, some (.builtin n), _] => decide (C' = C) && (decide (n = "ValueError.__new__") && (!cd.hasDel && (cd.hasDict && PySem.HandSPX.refsVE bm)))
    | _, _ => false)
  | _ => false
theorem clsB_ok {K : Frag} {C : Addr} (c : clsB K C = true) : ∃ nm q N bs bm sn sub ab col dd k0 k1 k2 k3 k5, K.lookup C = some (excClassObj nm q C N bs bm true sn sub ab col dd k0 k1 k2 k3 k5 "ValueError.__new__") ∧ PySem.HandSPX.refsVE bm = true := by
  unfold clsB at c
  split at c
  · rename_i dd cd sl ho
    split at c
    · rename_i C' bm k0 k1 k2 k3 n k5 hm hs
      obtain ⟨c1, c⟩ := ba c
      obtain ⟨c2, c⟩ := ba c
      obtain ⟨c3, c⟩ := ba c
      obtain ⟨c4, c5⟩ := ba c
      have e1 : C' = C := of_decide_eq_true c1
      have e2 : n = "ValueError.__new__" := of_decide_eq_true c2
      subst e1 e2
      obtain ⟨nm, bs, mro, ns, qn, hd, sn, sb, ab, col, del⟩ := cd
      dsimp only at hm c3 c4
      have e3 : del = false := by simpa using c3
      subst hm c4 e3
      have e4 : sl = #[k0, k1, k2, k3, some (.builtin "ValueError.__new__"), k5] := Array.toList_inj.mp hs
      subst e4
      exact ⟨nm, qn, ns, bs, bm, sn, sb, ab, col, dd, k0, k1, k2, k3, k5, ho, c5⟩
    · cases c
  · cases c
/-- its __init__: the cell of __class__, the code's file -/
def iniB (F : Str) (K : Frag) (C : Addr) : Bool := decide (findIn K (.ref C) "__init__" = some (some (.ref (ma K C "__init__")))) && (decide (typeIn K (.ref (ma K C "__init__")) = some (.type "function")) && (match K.lookup (ma K C "__init__") with
  | some ⟨_, _, .func fd, _⟩ => decide (fd.defaults = .none) && (decide (fd.kwdefaults = .none) && ((match fd.closure with
    | [(n, cc)] => decide (n = ("__class__" : Str)) && (match K.lookup cc with
      | some ⟨_, _, .cell (some v), _⟩ => decide (v = .ref C)
      | _ => false)
    | _ => false) && (match fd.code with
    | .ref cda => codeIn K (.ref cda) fd.qualname && (match K.lookup cda with
      | some ⟨_, _, .fields vs, _⟩ => (match vs[2]? with
        | some (Value.str file _) => F == file
        | _ => false)
      | _ => false)
    | _ => false)))
  | _ => false))
def supB (F : Str) (K : Frag) (x : Str) : Bool := clsB K (ga K x) && (decide (findIn K (.ref (ga K x)) "__setattr__" = some (some (.builtin "object.__setattr__"))) && (decide (findIn K (.ref (ga K x)) "address" = some none) && (keepIn K (.ref (ga K x)) &&
  (decide (subIn K (.ref (ga K x)) (.type "BaseException") = some true) && (decide (subIn K (.ref (ga K x)) (.type "ValueError") = some true) && (decide (mroIn K (ga K x) (.ref (ga K x)) = some true) && (decide (typeIn K (.ref (ga K x)) = some (.type "type")) &&
  (decide (ks_superIn K (ga K x) (ga K x) "__init__" = some (some (.builtin "ValueError.__init__"))) && (decide (nsIn K cStatics "thirdparty.any" = some none) && iniB F K (ga K x))))))))))
def supSd (x pre : Str) (body : List Stmt) (params : Arguments) (scope : Scope) : Sd := ⟨fun K => ma K (ga K x) "__init__", "__init__", x ++ ".__init__", params, body, scope, ["__class__"]⟩
theorem supB_ok {P : Program} {K : Frag} {mg : Str → Option Value} {x pre : Str} {p1 p2 a1 a2 a3 a4 a5 a6 a7 a8 a9 a10 a11 a12 a13 : Pos} {qual : Str} (gC : mg x = some (.ref (ga K x))) (gs : mg "super" = none) (top : (P.main.scope.names.lookup ("super" : Str)).isSome = false)
    (c : supB P.main.file K x = true) (e : fnS K (ma K (ga K x) "__init__") = (⟨fun K => ma K (ga K x) "__init__", "__init__", qual, PySem.SupX.supA p1 p2, PySem.SupX.supB pre a1 a2 a3 a4 a5 a6 a7 a8 a9 a10 a11 a12 a13, PySem.SupX.supS, ["__class__"]⟩ : Sd).val)
    (ln : PySem.SupX.SupLine pre a1 a2 a3 a4 a5 a6 a7 a8) : PySem.SupX.SupTxt P K mg (ga K x) x pre := by
  unfold supB at c
  obtain ⟨c1, c⟩ := ba c
  obtain ⟨c2, c⟩ := ba c
  obtain ⟨c3, c⟩ := ba c
  obtain ⟨c4, c⟩ := ba c
  obtain ⟨c5, c⟩ := ba c
  obtain ⟨c6, c⟩ := ba c
  obtain ⟨c7, c⟩ := ba c
  obtain ⟨c8, c⟩ := ba c
  obtain ⟨c9, c⟩ := ba c
  obtain ⟨c10, c⟩ := ba c
  refine ⟨gC, clsB_ok c1, of_decide_eq_true c2, of_decide_eq_true c3, c4, of_decide_eq_true c5, of_decide_eq_true c6, of_decide_eq_true c7, of_decide_eq_true c8, of_decide_eq_true c9, of_decide_eq_true c10, gs, top, ?_⟩
  unfold iniB at c
  obtain ⟨d1, c⟩ := ba c
  obtain ⟨d2, c⟩ := ba c
  obtain ⟨oc, od, osl, cl, dV, kV, doc, pm, an, cdv, ct, hlk, hcl⟩ := fnS_at e
  rw [hlk] at c
  dsimp only [PySem.W.fnX] at c
  obtain ⟨d3, w1⟩ := ba c
  obtain ⟨d4, w2⟩ := ba w1
  obtain ⟨d5, w3⟩ := ba w2
  have e3 : dV = .none := of_decide_eq_true d3
  have e4 : kV = .none := of_decide_eq_true d4
  subst e3 e4
  obtain ⟨cc, rfl⟩ : ∃ cc, cl = [(("__class__" : Str), cc)] := by
    cases cl with
    | nil => cases hcl
    | cons q r =>
      cases r with
      | nil =>
        obtain ⟨n, cc⟩ := q
        have : n = ("__class__" : Str) := by
          have h := congrArg List.head? hcl
          exact Option.some.inj h
        exact ⟨cc, by rw [this]⟩
      | cons _ _ => cases congrArg List.length hcl
  dsimp only at d5
  obtain ⟨_, d6⟩ := ba d5
  clear c w1 w2 d5
  split at d6
  · rename_i clc cld v csl hcell
    have ev : v = .ref (ga K x) := of_decide_eq_true d6
    subst ev
    split at w3
    · rename_i cda
      obtain ⟨c1', w4⟩ := ba w3
      clear w3
      split at w4
      · rename_i ccl cdd vs ccs hcode
        split at w4
        · rename_i file tf hvs
          exact ⟨ma K (ga K x) "__init__", cc, cda, oc, od, doc, pm, an, ct, osl, p1, p2, a1, a2, a3, a4, a5, a6, a7, a8, a9, a10, a11, a12, a13, vs, file, tf, ccl, cdd, ccs, clc, cld, csl, qual, of_decide_eq_true d1, of_decide_eq_true d2, hlk, c1', hcode, hvs, w4, hcell, ln⟩
        · cases w4
      · cases w4
    · cases w3
  · cases d6
end L3
end

section
/-! Law-independent layer 10: defs called in an except suite: they know the exception; tuples taken apart there, isinstance of it, its fields -/
namespace L3
open PySem PySem.Spec PyProof.Rows L2 HotX
/-! ### a tuple taken apart while an exception is handled -/
section
variable {prog : Program} {w : World} {A : Around} {E : Value → Shared → Prop} {s : Shared}
theorem tup_end_hot {it t x1 : Addr} {i : Nat} {items} {Q : Option Value → Shared → Prop} (hot : HotAt A x1 s.heap) (hni : x1 ≠ it)
    (hit : IsTupIter s.heap it t i) (ht : IsTup s.heap t items) (hx : items[i]? = none)
    (hQ : ∀ g, Heap.ExtBut it s.heap g → Q none { s with heap := g }) : wpAny (model prog w) A (pyNext (.ref it)) Q E s := by
  obtain ⟨oi, gi, ci, di⟩ := id hit; obtain ⟨ol, gl, _, nl, dl⟩ := ht; obtain ⟨hh, o1, vs1, h1, d1, c1⟩ := hot
  unfold pyNext; refine wpAny_bind (wpAny_attempt (wpAny_callSpecial?_slot (name := Str.ofString "__next__") hit.typeIs slot_tupleiter_next (wpAny_call_entry slot_tupleiter_next hit.typeIs entry_tupleiter_next ?_ (args_tupleiter_next _))))
  show wpAny _ _ (field (.ref it) 0 >>= _) _ _ s; refine wpAny_bind (wpAny_field gi di (x := .ref t) rfl ?_)
  show wpAny _ _ (if (Value.ref t == Value.none) = true then _ else _) _ _ s; rw [if_neg (show ¬ ((Value.ref t == Value.none) = true) from Bool.false_ne_true)]
  show wpAny _ _ (field (.ref it) 1 >>= _) _ _ s; refine wpAny_bind (wpAny_field gi di (x := .int i 0) rfl ?_)
  show wpAny _ _ (seqItems? (.ref t) >>= _) _ _ s; refine wpAny_bind (wpAny_seqItems gl dl ?_)
  simp only [Int.toNat_natCast, hx]; refine wpAny_bind (wpAny_rule (wpAny_bind (wpAny_setField gi di (by simp) ?_)))
  show wpAny _ _ (newExc (.type "StopIteration") [] >>= _) _ _ _; refine wpAny_bind ?_; simp only [newExc, newTuple]
  refine wpAny_bind (wpAny_newObj_type ?_ (by size_fits)); refine wpAny_bind (m := firstArgMember _ _) (wpAny_of_eq (a := Value.none) (by first | rfl | (simp only [firstArgMember]; rfl)) ?_)
  refine wpAny_newObj_type ?_ (by size_fits)
  have g1 := (Heap.get?_update_other s.heap (Obj.mapFields (·.setIfInBounds 0 Value.none)) (Ne.symm hni)).trans h1
  refine raiseNew_hot ⟨hh, o1, vs1, Heap.get?_push_of_some _ (Heap.get?_push_of_some _ g1), d1, c1⟩ (Nat.ne_of_lt (Heap.lt_size (Heap.get?_push_of_some _ g1))) (Heap.get?_push_size _ rfl) rfl (by first | (simp; done) | (simp; omega) | (simp only [Array.size_append]; simp; omega)) ?_
  refine wpAny_bind (wpAny_isInstance (T := "StopIteration") (b := true) ⟨_, Heap.get?_update_self _ (Heap.get?_push_size _ rfl) rfl, rfl⟩ isSubtype_stop ?_); refine wpAny_pure (hQ _ fun b o hb e => ?_)
  have e0 := (Heap.get?_update_other s.heap (Obj.mapFields (·.setIfInBounds 0 Value.none)) (Ne.symm hb)).trans e
  rw [Heap.get?_update_other _ _ (Nat.ne_of_gt (Heap.lt_size (Heap.get?_push_of_some _ e0)))]; exact Heap.get?_push_of_some _ (Heap.get?_push_of_some _ e0)
theorem unpack_hot {t x1 : Addr} {items : Array Value} {targets : List (Bool × (Value → Sem Unit))} {Q : Unit → Shared → Prop} (hot : HotAt A x1 s.heap) (ht : IsTup s.heap t items)
    (hn : targets.length = items.size) (hs : targets.findIdx? (·.1) = none)
    (h : ∀ g, Heap.ExtBut s.heap.objs.size s.heap g → wpAny (model prog w) A (assignInOrder (targets.map (·.2)) items.toList) Q E { s with heap := g }) :
    wpAny (model prog w) A (unpack (.ref t) targets) Q E s := by
  have nt : t ≠ s.heap.objs.size := by obtain ⟨o, ho, _⟩ := ht; exact Nat.ne_of_lt (Heap.lt_size ho)
  obtain ⟨hh, o1, vs1, h1, d1, c1⟩ := hot
  have n1 : x1 ≠ s.heap.objs.size := Nat.ne_of_lt (Heap.lt_size h1)
  unfold unpack; rw [hn, hs]; refine wpAny_bind (wpAny_holding ?_); unfold unpackItems; refine wpAny_bind ?_
  unfold notIterableAtAll; refine wpAny_bind (wpAny_specialOf ht.typeIs slot_tuple_iter.lookup ?_); refine wpAny_pure ?_; simp only [Bool.false_eq_true, if_false]
  refine wpAny_bind (wpAny_holding (iter_tuple ht ?_)); refine wpAny_bind (wpAny_holding (draw_tuple nt items.size 0 _ _ ⟨_, Heap.get?_push_size _ rfl, rfl, rfl⟩ (ht.push _) (by omega) fun g1 hit1 hs1 => ?_))
  have all : List.take items.size (List.drop 0 items.toList) = items.toList := by rw [List.drop_zero]; exact List.take_of_length_le (by simp)
  rw [all, if_neg (by simp)]
  have k1 := hs1.extBut x1 o1 n1 (Heap.get?_push_of_some _ h1)
  refine wpAny_bind (wpAny_holding (tup_end_hot ⟨hh, o1, vs1, k1, d1, c1⟩ n1 hit1 ((ht.push _).extBut hs1.extBut nt) (by simp) fun g2 he2 => ?_))
  simp only [Option.isSome_none, Bool.false_eq_true, if_false]; exact wpAny_pure (h g2 fun b o hb e => he2 b o hb (hs1.extBut b o hb (Heap.get?_push_of_some _ e)))
end
theorem pg_tupH {X : Cx} {es : List Expr} {k : Nat} {t : TGs} {n : Nat} {pos : Pos} (hc : L2H.HotC X) (h : PGs X es t)
    (hn : (assignEach es X.env).length = n := by rfl) (hst : (assignEach es X.env).findIdx? (·.1) = none := by rfl) : PG X (.Tuple es k pos) (gTup X.K n t) := by
  refine ⟨fun pins s σ H v u Q I r ⟨a, xs, e1, hq, hl, hw⟩ => ?_⟩
  subst e1; cases r
  obtain ⟨its, rv, ht, hz⟩ := I.tuple hq
  obtain ⟨x1, hot⟩ := hc.at I
  rw [assign_Tuple]
  refine wpAny_bind (wpAny_standAt (unpack_hot hot ht (by simp [hn, ← hl, rv.length]) hst fun g hx => ?_))
  have I1 : Inv X pins σ H { s with heap := g } := I.kept (t' := s.toks) fun b o e => hx b o (Nat.ne_of_lt (Heap.lt_size e)) e
  exact h.run pins _ σ H xs _ Q I1 (by simpa using rv) hw
/-! ### the defs -/
open L2H
/-- what such a def promises, p the handled exception -/
structure FnQ (P : Program) (w : World) (K : PySem.W.Frag) (mg : Str → Option Value) (base : Heap) (k : Nat) (f : Addr) (fd : FuncData) (ps : List Str) (sp : Addr × Obj → Sp) : Prop where
  len : ∀ p vs H Q E, sp p vs H Q E → vs.length = ps.length
  run : ∀ (A : Around) (outer : List Env) (s : Shared) (H : Hp) (args : Args) (us : List Value) (vs : List V) (Q : VK) (E : XK) (p : Addr × Obj), RoomH k A → Hot1 A p → PinOk outer H s p → Env0 P w K mg base A outer s H → BindsTo s fd args (ps.zip us) → Vals vs us → sp p vs H Q E →
    codeAny (model P w) A (.call (.ref f) args) (CR CX0 outer P w H s Q E) s
structure CalQ (P : Program) (w : World) (K : PySem.W.Frag) (mg : Str → Option Value) (base : Heap) (k : Nat) (x : Str) (ps : List Str) (sp : Addr × Obj → Sp) : Prop where
  ok : ∃ f fd, FnQ P w K mg base k f fd ps sp ∧ mg x = some (.ref f) ∧ PySem.W.keepIn K (.ref f) = true ∧ Binds K fd ps []
theorem fnQ_of {P : Program} {w : World} {K : PySem.W.Frag} {mg : Str → Option Value} {base : Heap} {k : Nat} {f : Addr} {name qual : Str} {params : Arguments} {body : List Stmt} {scope : Scope} {dV kV doc pm cdv ct oc : Value} {an od : Option Addr}
    {osl : Array (Option Value)} {N ps : List Str} {sp : Addr × Obj → Sp} (lk : K.lookup f = some ⟨oc, od, .func (PySem.W.fnOf name qual params body scope dV kV doc pm an cdv ct), osl⟩) (hcd : PySem.W.codeIn K cdv qual = true) (S : FnScope N ps scope)
    (len : ∀ p vs H Q E, sp p vs H Q E → vs.length = ps.length)
    (hbody : ∀ (A : Around) (outer : List Env) (s : Shared) (H : Hp) (vs : List V) (Q : VK) (E : XK) (p : Addr × Obj), Hot1 A p → RoomH k (A.deeper (envOfC qual scope s.heap.objs.size f cdv)) → sp p vs H Q E →
      ∃ t, PSs (cxH CX0 P w K mg base N qual scope f cdv A outer s H E p) body t ∧ t { nx := fun _ H' => Q .non H', rt := Q } (L2.start N vs) H) :
    FnQ P w K mg base (k + 1) f (PySem.W.fnOf name qual params body scope dV kV doc pm an cdv ct) ps sp := by
  refine ⟨len, fun A outer s H args us vs Q E p hr hot pin e0 hb r hsp => ?_⟩
  have hl := len _ _ _ _ _ hsp
  have KX : K.In s.heap := e0.mod.kin.keeps fun b o e => (e0.bs b o e).1
  have knd : ∀ y ∈ ps.zip us, scope.names.lookup y.1 = some .local ∨ (scope.names.lookup y.1 = some .cell ∧ ((cellsFrom (s.heap.objs.size + 1) scope.names []).lookup y.1).isSome = true) := fun ⟨n, v⟩ hy =>
    (S.par n (List.of_mem_zip hy).1).elim .inl fun q => .inr ⟨q, PySem.W.cellsFrom_some _ _ _ (.inl q)⟩
  refine codeAny_call_function hr.depth (KX _ _ lk) rfl S.co S.gen rfl (PySem.W.codeRec_of KX hcd) (hb _ _ _ _ (wpAny_newFunctionEnv_cells S.kind knd fun env he s1 x => ?_))
  subst he; refine ⟨(e0.mod.nolimit.keeps fun b o e => (e0.bs b o e).1).keeps x.toInCall.keep, codeAny_func ?_⟩
  obtain ⟨t, ht, hq⟩ := hbody A outer s H vs Q E p hot (hr.deeper _) hsp
  have I := inv_startH (CX := CX0) (qual := qual) (f := f) (cd := cdv) (E := E) (A := A) S pin e0 hl r x
  refine wpAny_mono (ht.run [] s1 (L2.start N vs) H _ I hq) (fun fl s' hs => ?_) fun e s' hs => hs
  cases fl with
  | ret u => obtain ⟨v, σ', H', J, rv, q⟩ := hs; exact ⟨v, H', J.os, J.bare, J.base, J.hok, rv, q⟩
  | next => obtain ⟨σ', H', J, q⟩ := hs; exact ⟨V.non, H', J.os, J.bare, J.base, J.hok, rfl, q⟩
  | brk => exact hs.elim fun _ h => h.elim fun _ h => h.2.elim
  | cont => exact hs.elim fun _ h => h.elim fun _ h => h.2.elim
theorem calQ_mk {P : Program} {w : World} {K : PySem.W.Frag} {mg : Str → Option Value} {base : Heap} {k : Nat} {x qual : Str} {params : Arguments} {body : List Stmt} {scope : Scope} {N ps : List Str} {sp : Addr × Obj → Sp} {f : Addr}
    (F : ∃ fd, FunD K x qual params body scope [] [] f fd) (hm : mg x = some (.ref f)) (S : FnScope N ps scope)
    (hb : ∀ (kV doc pm : Value) (an : Option Addr) (cdv ct : Value) (us : List Value), us.length = ps.length → bindArgs (PySem.W.fnOf x qual params body scope .none kV doc pm an cdv ct) ⟨us, []⟩ = pure (ps.zip us))
    (len : ∀ p vs H Q E, sp p vs H Q E → vs.length = ps.length)
    (hbody : ∀ (f : Addr) (cdv : Value) (A : Around) (outer : List Env) (s : Shared) (H : Hp) (vs : List V) (Q : VK) (E : XK) (p : Addr × Obj), Hot1 A p → RoomH k (A.deeper (envOfC qual scope s.heap.objs.size f cdv)) → sp p vs H Q E →
      ∃ t, PSs (cxH CX0 P w K mg base N qual scope f cdv A outer s H E p) body t ∧ t { nx := fun _ H' => Q .non H', rt := Q } (L2.start N vs) H) : CalQ P w K mg base (k + 1) x ps sp := by
  obtain ⟨fd, F⟩ := F
  obtain ⟨oc, od, dV, kV, doc, pm, an, cdv, ct, osl, rfl, lk, hcd, hd, hk⟩ := F.ex
  exact ⟨f, _, fnQ_of lk hcd S len (fun A outer s H vs Q E p => hbody f cdv A outer s H vs Q E p), hm, F.kp, F.bindsN hb⟩
/-- the call: the spec of the exception that is handled -/
def tCallQ (sp : Addr × Obj → Sp) (p : Addr × Obj) (t : TA) : TE := fun σ H Q => t σ H fun vs H1 => sp p vs H1 Q fun _ _ _ => False
def tCallR (sp : Sp) (t : TA) : TE := fun σ H Q => t σ H fun vs H1 => sp vs H1 Q fun _ _ _ => False
theorem k_callR {sp : Sp} {t : TA} {σ : L2.St} {H : Hp} {Q : VK} (h : t σ H fun vs H1 => sp vs H1 Q fun _ _ _ => False) : tCallR sp t σ H Q := h
theorem pe_calR {X : Cx} {sp' : Sp} {k j : Nat} {x : Str} {ps : List Str} {sp : Addr × Obj → Sp} {p : Addr × Obj} {q pos : Pos} {e : Expr} {es : List Expr} {t : TA} (c : CalQ X.prog X.w X.K X.mg X.base k x ps sp) (hr : RoomH j X.A) (hk : k ≤ j) (hot : Hot1 X.A p) (hp : p ∈ X.pn) (imp : ∀ vs H Q, sp' vs H Q (fun _ _ _ => False) → sp p vs H Q (fun _ _ _ => False)) (hg : Gl X x)
    (ha : PA X (e :: es) t) (hdb : (x == ("__debug__" : Str)) = false := by decide) (he : starEach (e :: es) X.env = (false, eval e X.env) :: starEach es X.env := by rfl) (hpl : (backTo pos (starEach es X.env)).any (·.1) = false := by rfl) :
    PE X (.Call (.Name x q) (e :: es) [] pos) (tCallR sp' t) := by
  obtain ⟨f, fd, F, hm, kp, hb⟩ := c.ok
  refine ⟨fun pins s σ H Q I h => ?_⟩
  refine wpAny_Call_Name_kw (ld_glob I hg hm (PySem.W.callWith_K (h₀ := X.base) I.ok.mod.kin kp (thn (ha.run pos pins s σ H _ I h) fun us s1 ⟨vs, H1, I1, r, q0⟩ => ⟨I1.kIn, ?_⟩) he hpl) hdb)
  have q1 := imp _ _ _ q0
  have hl : us.length = ps.length := by rw [← r.length]; exact F.len _ _ _ _ _ q1
  have b := hb s1 us I1.kIn (by simpa using hl)
  rw [List.append_nil] at b
  obtain ⟨g1, g2, g3, g4, g5⟩ := I1.pin p (List.mem_append_left _ hp)
  have pin : PinOk X.stack H1 s1 p := ⟨g1, g2, fun hm => (List.mem_cons.mp (I1.stkSub p.1 hm)).elim g3 g4, g5⟩
  refine wpAny_call (codeAny_mono (F.run X.A X.stack s1 H1 ⟨us, []⟩ us vs Q (fun _ _ _ => False) p (hr.mono hk) hot pin I1.env0 b r q1) fun r s' hq => ?_)
  match r, hq with
  | .error _, hq => exact hq.elim
  | .ok (.ret _), hq => exact I1.after hq
  | .ok .next, hq => exact hq.elim
  | .ok .brk, hq => exact hq.elim
  | .ok .cont, hq => exact hq.elim
theorem pe_calQ {X : Cx} {k j : Nat} {x : Str} {ps : List Str} {sp : Addr × Obj → Sp} {p : Addr × Obj} {q pos : Pos} {e : Expr} {es : List Expr} {t : TA} (c : CalQ X.prog X.w X.K X.mg X.base k x ps sp) (hr : RoomH j X.A) (hk : k ≤ j) (hot : Hot1 X.A p) (hp : p ∈ X.pn) (hg : Gl X x)
    (ha : PA X (e :: es) t) (hdb : (x == ("__debug__" : Str)) = false := by decide) (he : starEach (e :: es) X.env = (false, eval e X.env) :: starEach es X.env := by rfl) (hpl : (backTo pos (starEach es X.env)).any (·.1) = false := by rfl) :
    PE X (.Call (.Name x q) (e :: es) [] pos) (tCallQ sp p t) := pe_calR (sp' := sp p) c hr hk hot hp (fun _ _ _ h => h) hg ha hdb he hpl
/-! ### isinstance of the exception, its fields -/
theorem findObj_dataO {K : PySem.W.Frag} {C : Addr} {od : Option Obj} {name : Str} {a g : Value} (hc : (PySem.W.clsIn K C).isSome = true) (ha : PySem.W.findIn K (.ref C) name = some (some a)) (hg : PySem.W.specialIn K a "__get__" = some (some g)) (ht : PySem.W.takesIn K a = some true) : PySem.W.findObj K C od name = some (.bind g a) := by
  obtain ⟨cd, hc⟩ := Option.isSome_iff_exists.mp hc
  unfold PySem.W.findObj; rw [hc, Option.bind_some, ha, Option.bind_some]; simp [hg, ht]
section
open PySem.W PySem.Calls
variable {prog : Program} {w : World} {A : Around} {E : Value → Shared → Prop} {s : Shared} {K : Frag} {x D : Addr} {ox : Obj} {od : Option Obj}
theorem kin_classO {Q : Option Value → Shared → Prop} (C : L2.ExcC K D) (X : K.In s.heap) (I : PySem.W.InstAt s.heap x ox D od) (h : Q (some (.ref D)) { s with toks := s.toks + 1 }) : wpAny (model prog w) A (getAttr? (.ref x) "__class__") Q E s := by
  obtain ⟨cd0, hc0, _⟩ := any_some C.hd
  have hf : findObj K D od "__class__" = some (.bind (.builtin "getset_descriptor.__get__") (.builtin "object.__class__")) := findObj_dataO (by rw [hc0]; rfl) C.ha C.hn C.ht
  obtain ⟨hp, g, d, t, os⟩ := s
  have L0 := I.type (M := model prog w); have L1 := looks_findIn (M := model prog w) X C.hg; have L2 := looks_findIn (M := model prog w) X C.hk; have L3 := looks_find (M := model prog w) X I hf
  have sub : Looks (model prog w) hp (isInstance (.ref x) (.type "BaseException")) true := L0.andThen (looks_subIn X C.hs)
  have n2 : (Value.builtin "BaseException.__getattribute__" == Value.builtin "object.__getattribute__") = false := by decide +kernel
  have n1 : (onTheHeap (Value.ref D) && Value.builtin "BaseException.__getattribute__" == Value.builtin "object.__getattribute__") = false := by rw [n2]; rfl
  unfold getAttr? getAttrBy? getAttrBy; refine wpAny_bind (wpAny_mkText (wpAny_bind (wpAny_attempt (wpAny_holding (wpAny_bind (L0.at (wpAny_bind (L1.at ?_))))))))
  show wpAny _ _ (if (onTheHeap (Value.ref D) && Value.builtin "BaseException.__getattribute__" == Value.builtin "object.__getattribute__") = true then _ else _) _ _ _; rw [n1, if_neg Bool.false_ne_true]
  unfold getAttrByItsOwn hookBefore; refine wpAny_bind ?_; rw [if_pos (show onTheHeap (Value.ref D) = true from rfl)]
  refine L2.at (wpAny_bind (wpAny_attempt (wpAny_holding ?_)))
  unfold callGetattribute; rw [show (false && onTheHeap (Value.builtin "BaseException.__getattribute__")) = false from rfl, if_neg Bool.false_ne_true]
  unfold boundAndCalled; rw [PySem.F.excAttr_ValueError.ga.bind (.ref x)]; refine wpAny_bind (wpAny_pure ?_)
  show wpAny _ _ (call (.builtin "BaseException.__getattribute__") [.ref x, .str "__class__" t]) _ _ _; refine wpAny_call (codeAny_call_builtin PySem.F.excAttr_ValueError.ga.plain PySem.F.entry_bexc_ga ?_)
  refine @check_slot (model prog w) _ _ ⟨hp, g, d, t + 1, os⟩ "BaseException.__getattribute__" "BaseException" "__getattribute__" (.ref x) [.str "__class__" t] [] _ (by decide +kernel) (by decide +kernel) sub (PySem.F.args_bexc_ga (.ref x) (.str "__class__" t)) ?_
  unfold Builtin.«object.__getattribute__»; refine wpAny_bind (wpAny_of_eq (a := ((Value.ref x : Value), [Value.str "__class__" t])) (by first | rfl | (simp only [slotArgs]; rfl)) ?_)
  refine wpAny_bind (wpAny_pure (wpAny_bind (L0.at (wpAny_bind (L3.at ?_)))))
  show wpAny _ _ (holding [Value.builtin "object.__class__"] (call (.builtin "getset_descriptor.__get__") [.builtin "object.__class__", .ref x, .ref D]) >>= ret) _ _ _; refine wpAny_bind (wpAny_holding (wpAny_call (class_get (s := ⟨hp, g, d, t + 1, os⟩) (ox := ox) (od := od) X I C.hm (wpAny_pure ?_))))
  show wpAny _ _ (handedOut (.ref D)) _ _ _; rw [handedOut_of (v := .ref D) rfl]
  first
    | exact wpAny_pure (wpAny_pure h)
    | exact wpAny_pure h
    | exact wpAny_pure (wpAny_bind (wpAny_pure (wpAny_pure h)))
theorem kitx_excO (C : L2.ExcC K D) : KitX K (.ref x) (.ref D) (fun h => PySem.W.InstAt h x ox D od) := by
  obtain ⟨cd0, hc0, _⟩ := any_some C.hd
  have ho : ∃ c d sl, K.lookup D = some ⟨c, d, .cls cd0, sl⟩ := by
    unfold clsIn at hc0; split at hc0
    · rename_i c' d' cd' sl' ho; cases hc0; exact ⟨_, _, _, ho⟩
    · cases hc0
  obtain ⟨c1, d1, sl1, ho⟩ := ho
  refine ⟨fun _ _ _ I => I.type, fun _ _ X _ A' Q' E' s' k q => ?_, fun h tp dd its n sl X htp => ?_, fun X I k => kin_classO C X I k⟩
  · unfold isType loadHead; exact wpAny_bind (wpAny_loadPart (k _ _ (X _ _ ho)) (wpAny_pure q))
  · refine Bool.eq_false_iff.mpr fun q => ?_
    have e : D = tp := Value.ref.inj (beq_iff_eq.mp q)
    subst e; cases (X _ _ ho).symm.trans htp
end
/-- the caught exception of the class cls, its dict d, as it stands at H -/
def ExAt (H : Hp) (d : Option Addr) : Prop := d = none ∨ ∃ dd fs, d = some dd ∧ H dd = some (.xd fs)
theorem exc_inst {X : Cx} {p : Addr × Obj} {D : Addr} {d : Option Addr} {pins : List (Addr × Obj)} {σ : L2.St} {H : Hp} {s : Shared} (hz : Zc (.ref D) d p.2) (hf : ∃ vs, p.2.data = .fields vs) (hp : p ∈ X.pn) (I : Inv X pins σ H s) (h : ExAt H d) : ∃ od, PySem.W.InstAt s.heap p.1 p.2 D od := by
  obtain ⟨hget, _⟩ := I.pin p (List.mem_append_left _ hp)
  obtain ⟨vs, hv⟩ := hf
  have no : PySem.W.notCls p.2 = true := by unfold PySem.W.notCls; rw [hv] <;> rfl
  rcases h with rfl | ⟨dd, fs, rfl, ea⟩
  · exact ⟨none, hget, hz.1, no, by rw [hz.2]; trivial⟩
  · obtain ⟨mA, hns, _⟩ := (show ObjOk X.prog X.w H s.heap dd (.xd fs) from I.hok dd _ ea)
    obtain ⟨od, ho, _⟩ := lookIn_ns hns
    exact ⟨some od, hget, hz.1, no, by rw [hz.2]; exact ho⟩
def rIsQ (K : PySem.W.Frag) (D a : Addr) (d : Option Addr) : List V → Hp → VK → Prop := fun xs H Q => ∃ (c : V) (u : Value) (b : Bool), xs = [.ref a, c] ∧ ExAt H d ∧ ClsV c u ∧ PySem.W.kitOne K (.ref D) u = some b ∧ Q (.bl b) H
def rIsQT (K : PySem.W.Frag) (D a : Addr) (d : Option Addr) : List V → Hp → VK → Prop := fun xs H Q => ∃ (tp : Addr) (cs : List V) (us : List Value) (b : Bool), xs = [.ref a, .ref tp] ∧ ExAt H d ∧ H tp = some (.tup cs) ∧ Paired ClsV cs us ∧ PySem.W.kitAny K (.ref D) us = some b ∧ Q (.bl b) H
section
variable {X : Cx} {p : Addr × Obj} {D : Addr} {d : Option Addr}
theorem cr_isQ (C : L2.ExcC X.K D) (hz : Zc (.ref D) d p.2) (hf : ∃ vs, p.2.data = .fields vs) (hp : p ∈ X.pn) : CallR X (.builtin "isinstance") (rIsQ X.K D p.1 d) := by
  intro pins s σ H xs us Q I r ⟨c, u, b, ex, he, k, e, q⟩
  subst ex
  obtain ⟨u1, u2, rfl, r1, r2⟩ := vals2 r
  cases r1
  have e2 := k.eq r2; subst e2
  obtain ⟨od, J⟩ := exc_inst hz hf hp I he
  exact PySem.W.kia_one (kitx_excO C) I.kIn J e (fun z => nomatch z) fun tk => ⟨.bl b, H, I.tok tk, rfl, q⟩
theorem cr_isQT (C : L2.ExcC X.K D) (hz : Zc (.ref D) d p.2) (hf : ∃ vs, p.2.data = .fields vs) (hp : p ∈ X.pn) : CallR X (.builtin "isinstance") (rIsQT X.K D p.1 d) := by
  intro pins s σ H xs us Q I r ⟨tp, cs, ws, b, ex, he, hT, k, e, q⟩
  subst ex
  obtain ⟨u1, u2, rfl, r1, r2⟩ := vals2 r
  cases r1; cases (show u2 = Value.ref tp from r2)
  obtain ⟨od, J⟩ := exc_inst hz hf hp I he
  obtain ⟨_, its, rv, o, h1, h2, n, h3⟩ := (show ObjOk X.prog X.w H s.heap tp (.tup cs) from I.hok tp _ hT)
  have e3 := ClsV.all k rv; subst e3
  obtain ⟨oc, oda, dt, sl⟩ := o
  simp only at h2 h3; subst h2 h3
  exact PySem.W.kia_tup (kitx_excO C) I.kIn J h1 e (fun z => nomatch z) fun tk => ⟨.bl b, H, I.tok tk, rfl, q⟩
/-- e.f, e the handled exception -/
def tXfQ (a : Addr) (d : Option Addr) (f : Str) (te : TE) : TE := fun σ H Q => te σ H fun x H1 => x = .ref a ∧ ∃ (dd : Addr) (fs : List (Str × V)) (v : V), d = some dd ∧ H1 dd = some (.xd fs) ∧ fs.lookup f = some v ∧ Q v H1
theorem pe_xfQ {e : Expr} {te : TE} {pos : Pos} {n : Str} (T : L2.XfC X.K D) (hno : PySem.W.findIn X.K (.ref D) n = some none) (hz : Zc (.ref D) d p.2) (hf : ∃ vs, p.2.data = .fields vs) (hp : p ∈ X.pn) (he : PE X e te) (hb : attributeBase e n X.env (eval e X.env) = eval e X.env := by rfl) :
    PE X (.Attribute e n pos) (tXfQ p.1 d n te) := by
  refine ⟨fun pins s σ H Q I h => attr_of hb (thn (he.run pins s σ H _ I h) fun u s1 ⟨x, H1, I1, rx, ex, dd, fs, v, ed, ea, l, q⟩ => ?_)⟩
  subst ex ed; cases rx
  obtain ⟨ha, _⟩ := I1.pin p (List.mem_append_left _ hp)
  obtain ⟨vs, hd⟩ := hf
  obtain ⟨mA, hns, hr⟩ := (show ObjOk X.prog X.w H1 s1.heap dd (.xd fs) from I1.hok dd _ ea)
  obtain ⟨od, ho, hl⟩ := lookIn_ns hns
  obtain ⟨u, hu, ru⟩ := RelO.some_of (v := v) (o := mA n) (by rw [← l]; exact hr n)
  have J : PySem.W.InstAt s1.heap p.1 p.2 D (some od) := ⟨ha, hz.1, by unfold PySem.W.notCls; rw [hd] <;> rfl, by rw [hz.2]; exact ho⟩
  exact HandSPX.exc_get I1.kIn J T.ga T.gg T.exC (PySem.W.findObj_own T.hdC hno rfl (by rw [hl, hu])) (handed_of ru) ⟨v, H1, I1.tok _, ru, q⟩
end
end L3
end

section
/-! Law-independent layer 11: == and != of an own class that has __eq__ alone, beside anything -/
namespace L3
open PySem PySem.Spec PyProof.Rows L2
section
variable {X : Cx} {CX : CXT} {k j : Nat} {C : Addr} {ps : List Str} {sp : Sp} {E : XK}
/-- the own __eq__ is called with x and any other thing; ng: its answer is turned round -/
def rOwnX (K : PySem.W.Frag) (C : Addr) (sp : Sp) (E : XK) (ng : Bool) : R2 := fun x y H Q => ∃ a dx fs t, x = V.ref a ∧ H a = some (.ins C dx fs) ∧ TyX K H y t ∧ PySem.W.notFirst K C t = true ∧ sp [.ref a, y] H (fun v H' => ∃ b : Bool, v = .bl b ∧ Q (.bl (if ng = true then !b else b)) H') E
theorem eq_called (cm : Met X.prog X.w X.K X.mg X.base CX k C "__eq__" ps sp) {A : Around} (hr : Room k A) (hfr : A.frames = X.A.frames) (hx : Passes CX X E) {pins : List (Addr × Obj)} {s : Shared} {σ : L2.St} {H : Hp} {Q : VK} {a : Addr} {y : V} {u : Value} (I : Inv X pins σ H s) (ry : RelV y u)
    (h : sp [.ref a, y] H (fun v H' => ∃ b : Bool, v = .bl b ∧ Q (.bl b) H') E) :
    ∃ f, Meth X.K C "__eq__" f ∧ wpAny (model X.prog X.w) A (call (.ref f) [.ref a, u]) (fun v s' => ∃ b : Bool, v = .bool b ∧ ∃ H', Inv X pins σ H' s' ∧ Q (.bl b) H') X.xe s := by
  obtain ⟨f, fd, F, M, hb⟩ := cm.ok
  refine ⟨f, M, ?_⟩
  have hl := F.len _ _ _ _ h
  have e := I.env0
  have e0 : Env0 X.prog X.w X.K X.mg X.base A X.stack s H := ⟨by rw [hfr]; exact e.frames, e.mod, e.bs, e.bsz, e.funs, e.frf, e.hok, e.bare⟩
  refine wpAny_call (codeAny_mono (F.run A X.stack s H ⟨[.ref a, u], []⟩ [.ref a, u] [.ref a, y] _ E hr e0 (by
    have := hb s [.ref a, u] I.kIn (by simpa using hl)
    simpa using this) (.cons rfl (.cons ry .nil)) h) fun r s' hq => ?_)
  match r, hq with
  | .error ee, hq => exact hx pins σ H s ee s' I hq
  | .ok (.ret w), hq =>
    obtain ⟨z, H', I', rz, b, ez, q⟩ := I.after hq
    subst ez
    cases rz
    exact ⟨b, rfl, H', I', q⟩
  | .ok .next, hq => exact hq.elim
  | .ok .brk, hq => exact hq.elim
  | .ok .cont, hq => exact hq.elim
theorem op_ownEqX (cm : Met X.prog X.w X.K X.mg X.base CX k C "__eq__" ps sp) (hr : Room j X.A) (hk : k ≤ j) (hx : Passes CX X E) : OpR X (compareOp .Eq) (rOwnX X.K C sp E false) := by
  intro pins s σ H x y v u Q I rx ry ⟨a, dx, fs, t, ex, ha, ty, nf, h⟩
  subst ex; cases rx
  obtain ⟨mA, J, _⟩ := ins_get I.hok ha
  obtain ⟨od, J, _⟩ := J.look
  obtain ⟨Z, kt, kp, _⟩ := kit_of I ry ty
  obtain ⟨m, hF⟩ := I.fr
  obtain ⟨f, M, hc⟩ := eq_called cm (hr.mono hk) rfl hx I ry h
  show wpAny (model X.prog X.w) X.A (richCompare .Eq (.ref a) u) (EP X pins σ Q) X.xe s
  refine PySem.W.cmp_K (op := .Eq) hr.units0 hF I.ok.mod.kin J (kt.ty _ _ I.kIn kp) nf M.at_ M.fn (wpAny_mono hc (fun w s' ⟨b, ew, H', I', q⟩ => ?_) fun _ _ z => z)
  subst ew
  exact ⟨.bl b, H', I', rfl, q⟩
open PySem.W in
theorem op_ownNeX (cm : Met X.prog X.w X.K X.mg X.base CX k C "__eq__" ps sp) (hne : findIn X.K (.ref C) "__ne__" = some (some (.builtin "object.__ne__"))) (hso : subIn X.K (.ref C) (.type "object") = some true) (hr : Room j X.A) (hk : k + 1 ≤ j) (hx : Passes CX X E) : OpR X (compareOp .NotEq) (rOwnX X.K C sp E true) := by
  intro pins s σ H x y v u Q I rx ry ⟨a, dx, fs, t, ex, ha, ty, nf, h⟩
  subst ex; cases rx
  obtain ⟨mA, J, _⟩ := ins_get I.hok ha
  obtain ⟨od, J, _⟩ := J.look
  obtain ⟨Z, kt, kp, _⟩ := kit_of I ry ty
  have kin := I.kIn
  have hb := kt.ty (model X.prog X.w) _ kin kp
  have r1 : Room (k + 1) X.A := hr.mono hk
  have u1 : X.A.in1.units < cLine := r1.in1.units0
  obtain ⟨f, M, hc⟩ := eq_called (Q := fun v H' => ∃ b : Bool, v = .bl b ∧ Q (.bl (!b)) H') cm r1.in1 rfl hx I ry (by
    have : (fun v H' => ∃ b : Bool, v = V.bl b ∧ Q (.bl (if true = true then !b else b)) H') = (fun v H' => ∃ b : Bool, v = V.bl b ∧ ∃ b' : Bool, V.bl b = V.bl b' ∧ Q (.bl (!b')) H') := by
      funext v H'
      refine propext ⟨fun ⟨b, e, q⟩ => ⟨b, e, b, rfl, q⟩, fun ⟨b, e, b', e', q⟩ => ⟨b, e, ?_⟩⟩
      cases e'
      exact q
    rw [this] at h
    exact h)
  show wpAny (model X.prog X.w) X.A (richCompare .NotEq (.ref a) u) (EP X pins σ Q) X.xe s
  have one : wpAny (model X.prog X.w) X.A (tryCompare (.ref a) "__ne__" u) (fun r s' => ∃ v, r = some v ∧ EP X pins σ Q v s') X.xe s := by
    unfold tryCompare
    refine wpAny_bind ?_
    simp only [callSpecialIfBound?, bindSpecialIfBound?]
    have fin : wpAny (model X.prog X.w) X.A (call (.builtin "object.__ne__") ([.ref a] ++ [u]) >>= fun v => pure (some v)) (fun r s₁ => wpAny (model X.prog X.w) X.A (match r with | some .notImplemented | none => pure none | some v => pure (some v)) (fun r s' => ∃ v, r = some v ∧ EP X pins σ Q v s') X.xe s₁) X.xe s := by
      refine wpAny_bind (wpAny_call (codeAny_call_builtin PySem.F.cmp_object.ne.plain PySem.F.cmpEntry_ne ?_))
      have sub : Looks (model X.prog X.w) s.heap (isInstance (.ref a) (.type "object")) true := (J.type (M := model X.prog X.w)).andThen (looks_subIn kin hso)
      refine @check_slot (model X.prog X.w) _ _ s "object.__ne__" "object" "__ne__" (.ref a) [u] [] _ PySem.F.cmpKind_ne PySem.F.cmpSplit_ne sub (PySem.F.cmpArgs_ne _ _) ?_
      unfold Builtin.«object.__ne__»
      refine wpAny_bind (wpAny_of_eq (a := ((Value.ref a : Value), [u])) (by first | rfl | (simp only [slotArgs]; rfl)) ?_)
      refine wpAny_bind (wpAny_cRoomFor u1 ?_)
      refine wpAny_bind (ifBound_K kin J M.at_ M.fn (wpAny_mono hc (fun w s' ⟨b, ew, H', I', b', eb, q⟩ => ?_) fun _ _ z => z))
      subst ew
      cases eb
      refine wpAny_bind (wpAny_of_eq (a := b) (by first | rfl | (simp only [truthy]; rfl)) ?_)
      refine wpAny_pure ?_
      exact wpAny_pure (wpAny_pure ⟨_, rfl, .bl (!b), H', I', rfl, q⟩)
    refine wpAny_holding (wpAny_bind (wpAny_bind (wpAny_bind (J.type.here ((looks_findIn kin hne).here ?_)))))
    simp only [PySem.F.cmp_object.ne.bind]
    refine wpAny_bind (wpAny_askSetting (wpAny_ite ?_))
    split
    · exact wpAny_bind (wpAny_pure (wpAny_pure fin))
    · exact wpAny_tryCatch (wpAny_bind (wpAny_pure (wpAny_pure fin)))
  unfold richCompare; simp only [oneThing_ref]
  refine wpAny_holding (wpAny_bind (wpAny_cRoomFor hr.units0 (wpAny_bind (J.type.here (wpAny_bind (hb.here ?_))))))
  have tail : ∀ {F : Option Value → Sem Value}, (∀ v, F (some v) = pure v) → wpAny (model X.prog X.w) X.A (tryCompare (.ref a) "__ne__" u >>= F) (EP X pins σ Q) X.xe s := fun {F} hF => wpAny_bind (wpAny_mono one (fun r s' ⟨v, e, q⟩ => by subst e; rw [hF]; exact wpAny_pure q) fun _ _ z => z)
  split
  · rename_i q
    have e : subIn X.K t (.ref C) = some false := by
      rcases Bool.or_eq_true_iff.mp nf with e | e
      · rw [beq_iff_eq.mp e] at q; simp at q
      · exact beq_iff_eq.mp e
    refine wpAny_bind ((looks_subIn kin e).here ?_); simp only [Bool.false_eq_true, if_false]
    exact tail fun v => rfl
  · refine wpAny_bind (wpAny_pure ?_); simp only [Bool.false_eq_true, if_false]
    exact tail fun v => rfl
end
end L3
end

section
/-! Law-independent layer 12: own exceptions of one text: super().__init__(f'..{name}'), self.name = name -/
namespace PySem
namespace SupN
open PySem.W PySem.HandSPX Calls PyProof.Rows PySem.Spec
def supBn (pre : Str) (a1 a2 a3 a4 a5 a6 a7 a8 a9 a10 a11 a12 a13 : Pos) : List Stmt :=
  [.Expr (.Call (.Attribute (.Call (.Name "super" a1) [] [] a2) "__init__" a3) [.JoinedStr [.Constant (.str pre) 0 a4, .FormattedValue (.Name "name" a5) (-1) none a6] a7] [] a8) a9,
   .Assign [.Attribute (.Name "self" a10) "name" a11] (.Name "name" a12) a13]
def supSn : Scope := { kind := .function, names := [("self", .local), ("name", .local), ("__class__", .free), ("super", .globalImplicit)], isGenerator := false, isCoroutine := false, more := [] }
def supAn (p1 p2 : Pos) : Arguments := { posonlyargs := [], args := [{ arg := "self", annotation := none, pos := p1 }, { arg := "name", annotation := none, pos := p2 }], vararg := none, kwonlyargs := [], kw_defaults := [], kwarg := none, defaults := [] }
/-- the call stands on one line -/
def SupLine (pre : Str) (a1 a2 a3 a4 a5 a6 a7 a8 : Pos) : Prop := ∀ env : Env, ∃ pl : Sem Bool, eval (.Call (.Attribute (.Call (.Name "super" a1) [] [] a2) "__init__" a3) [.JoinedStr [.Constant (.str pre) 0 a4, .FormattedValue (.Name "name" a5) (-1) none a6] a7] [] a8) env = (do
      let ov ← attributeBase (.Call (.Name "super" a1) [] [] a2) "__init__" env (eval (.Call (.Name "super" a1) [] [] a2) env)
      standAt a3.atName
      let (f, first) ← holding [ov] (getMethod ov "__init__" pl)
      callWith a8 f first (backTo a8 (starEach [.JoinedStr [.Constant (.str pre) 0 a4, .FormattedValue (.Name "name" a5) (-1) none a6] a7] env)) [])
/-- what the written part says of such a class -/
structure SupTxt (P : Program) (K : Frag) (mg : Str → Option Value) (C : Addr) (x pre : Str) : Prop where
  gC : mg x = some (.ref C)
  cls : ∃ nm q N bs bm sn sub ab col dd k0 k1 k2 k3 k5, K.lookup C = some (excClassObj nm q C N bs bm true sn sub ab col dd k0 k1 k2 k3 k5 "ValueError.__new__") ∧ refsVE bm = true
  sa : findIn K (.ref C) "__setattr__" = some (some (.builtin "object.__setattr__"))
  noN : findIn K (.ref C) "name" = some none
  kC : keepIn K (.ref C) = true
  exC : subIn K (.ref C) (.type "BaseException") = some true
  veC : subIn K (.ref C) (.type "ValueError") = some true
  slf : mroIn K C (.ref C) = some true
  tyC : typeIn K (.ref C) = some (.type "type")
  sup : ks_superIn K C C "__init__" = some (some (.builtin "ValueError.__init__"))
  dead : nsIn K cStatics "thirdparty.any" = some none
  gs : mg "super" = none
  top : (P.main.scope.names.lookup ("super" : Str)).isSome = false
  fn : ∃ (fI cc cda : Addr) (oc : Value) (od : Option Addr) (doc pm : Value) (an : Option Addr) (ct : Value) (osl : Array (Option Value)) (p1 p2 a1 a2 a3 a4 a5 a6 a7 a8 a9 a10 a11 a12 a13 : Pos) (vs : Array Value) (file : Str) (tf : Tok) (ccl : Value) (cdd : Option Addr) (ccs : Array (Option Value)) (cl : Value) (cld : Option Addr) (csl : Array (Option Value)) (qual : Str),
    findIn K (.ref C) "__init__" = some (some (.ref fI)) ∧ typeIn K (.ref fI) = some (.type "function") ∧
    K.lookup fI = some ⟨oc, od, .func (ksFn "__init__" qual (supAn p1 p2) (supBn pre a1 a2 a3 a4 a5 a6 a7 a8 a9 a10 a11 a12 a13) supSn .none .none doc pm an (.ref cda) ct cc), osl⟩ ∧ codeIn K (.ref cda) qual = true ∧
    K.lookup cda = some ⟨ccl, cdd, .fields vs, ccs⟩ ∧ vs[2]? = some (.str file tf) ∧ ((P.main.file : Str) == file) = true ∧ K.lookup cc = some ⟨cl, cld, .cell (some (.ref C)), csl⟩ ∧ SupLine pre a1 a2 a3 a4 a5 a6 a7 a8
/-- what __init__ leaves of a fresh exception at x -/
structure InitEnd (h h' : Heap) (x C dx t1 : Addr) (v : Value) : Prop where
  keep : ∀ b o, b ≠ x → h.get? b = some o → h'.get? b = some o
  obj : h'.get? x = some { cls := .ref C, dict := some dx, data := .fields #[.ref t1, .none, .none, .none, .bool false, .none] }
  dbig : h.objs.size ≤ dx
  dne : dx ≠ x
  ns : h'.Ns1 dx (fun y => if y = "name" then some v else none)
theorem ldSn {M : Model} {s : Shared} {name : Str} {scope : Scope} {L a : Addr} {cd : Value} {cells : List (Str × Addr)} {m : Str → Option Value} {x : Str} {pos : Pos} {v : Value} {Q : Value → Shared → Prop} {A : Around} {E : Value → Shared → Prop} (hn : s.heap.Ns L m) (hv : m x = some v) (h : Q v s)
    (hk : scope.kind = .function := by rfl) (hl : (envX name scope L a cd cells).kindOf x = some .local := by rfl) (hd : (x == ("__debug__" : Str)) = false := by decide) :
    wpAny M A (eval (.Name x pos) (envX name scope L a cd cells)) Q E s := wpAny_Name (wpAny_loadName_local hk hl hn hv h) hd
section
variable {prog : Program} {w : World} {A : Around} {E : Value → Shared → Prop} {R : Result → Shared → Prop} {s : Shared} {K : Frag} {mg : Str → Option Value} {C : Addr} {x pre : Str} {base : Heap}
/-- the bound __init__ of ValueError called -/
theorem call_mwn {h : Heap} {g : Array GenState} {d : Drawn} {t : Nat} {os : OsState} {u e t0 : Addr} {rest : List Value} {Q : Value → Shared → Prop} {nm q : Str} {C N : Addr} {bs bm : List Value} {sn : List Str} {sub : List Value} {ab : Bool} {col : Option Bool} {dd : Option Addr} {k0 k1 k2 k3 k5 : Option Value}
    (hu : h.get? u = some (kxs_mw "ValueError.__init__" e)) (hC : h.get? C = some (excClassObj nm q C N bs bm true sn sub ab col dd k0 k1 k2 k3 k5 "ValueError.__new__")) (he : h.get? e = some (excO C t0)) (hz : rest.length ≤ sizeLine)
    (hq : ∀ h' t1, (∀ b o, b ≠ e → h.get? b = some o → h'.get? b = some o) → h'.get? e = some (excO C t1) → Q .none ⟨h', g, d, t, os⟩) :
    wpAny (model prog w) A (call (.ref u) rest) Q E ⟨h, g, d, t, os⟩ := by
  refine wpAny_call (codeAny_of_tree ?_)
  show wpAny _ A.in1 (callAny (.ref u) ⟨rest, []⟩) _ _ _
  simp only [callAny]
  refine wpAny_bind (wpAny_load hu ?_)
  simp only [kxs_mw, show (Value.type "method-wrapper" == Value.type "method" || Value.type "method-wrapper" == Value.type "builtin_function_or_method" || Value.type "method-wrapper" == Value.type "method-wrapper") = true by decide, if_true]
  refine KFB.if_so (by decide) ?_
  refine wpAny_bind (check_bound_init F.excBase_ValueError.toExcCallFacts hC he rfl ?_)
  refine wpAny_bind (wpAny_pure (wpAny_pure ?_))
  refine ⟨plainId_quiet F.excBase_ValueError.init.plain _, codeAny_builtin F.excBase_ValueError.initEntry ?_⟩
  exact exc_init_tree (cls := .ref C) (t0 := t0) (dv := none) (c2 := .none) (c3 := .none) (b4 := .bool false) he hz fun h' k e' _ => hq h' _ k e'
theorem sup_init (T : SupTxt prog K mg C x pre) (M : L2.Mod K mg base) {z : Str} {tk0 : Tok} {xe t0 fI : Addr} (bk : ∀ b o, base.get? b = some o → s.heap.get? b = some o) (hlim : s.heap.NoLimit) (hx : s.heap.get? xe = some (excO C t0)) (hnx : base.get? xe = none) (hroom : A.depth < recursionLimit)
    (hf : findIn K (.ref C) "__init__" = some (some (.ref fI))) (hi : z.length ≤ 1000) (hpre : pre.length ≤ 1000)
    (hq : ∀ h' tk dx t1, InitEnd s.heap h' xe C dx t1 (.str z tk0) → R (.ok (.ret .none)) { s with heap := h', toks := tk }) :
    codeAny (model prog w) A (.call (.ref fI) ⟨[.ref xe, .str z tk0], []⟩) R s := by
  obtain ⟨fI', cc, cda, oc, od, doc, pm, an, ct, osl, p1, p2, a1, a2, a3, a4, a5, a6, a7, a8, a9, a10, a11, a12, a13, vs, file, tf, ccl, cdd, ccs, cl, cld, csl, qual, g1, g2, g3, g4, g5, g6, g7, g8, gL⟩ := T.fn
  obtain rfl : fI = fI' := by
    rw [hf] at g1
    exact Value.ref.inj (Option.some.inj (Option.some.inj g1))
  obtain ⟨nm, q, N, bs, bm, sn, sub, ab, col, dd, k0, k1, k2, k3, k5, hC, hbm⟩ := T.cls
  have hcl : clsIn K C = some { name := nm, bases := bs, mro := .ref C :: bm, ns := N, qualname := q, hasDict := true, slotNames := sn, subclasses := sub, abstract := ab, collection := col, hasDel := false } := by unfold clsIn; rw [hC] <;> rfl
  have X : K.In s.heap := M.kin.keeps bk
  refine ks_codeAny_call_defAt (fd := ksFn "__init__" qual (supAn p1 p2) (supBn pre a1 a2 a3 a4 a5 a6 a7 a8 a9 a10 a11 a12 a13) supSn .none .none doc pm an (.ref cda) ct cc) (body := supBn pre a1 a2 a3 a4 a5 a6 a7 a8 a9 a10 a11 a12 a13) (binds := [("self", .ref xe), ("name", .str z tk0)])
    hroom (X _ _ g3) rfl hlim (codeRec_of X g4) rfl (BindsTo.of_eq (by first | rfl | with_unfolding_all rfl)) (show ∀ x ∈ supSn.names, x.2 ≠ .cell by decide) (fun y hy => by
      rcases List.mem_cons.mp hy with rfl | hy
      · with_unfolding_all rfl
      · rcases List.mem_cons.mp hy with rfl | hy
        · with_unfolding_all rfl
        · cases hy) (fun h₁ hn k => ?_) rfl rfl rfl
  have X₁ : K.In h₁ := X.keeps k
  have hx₁ := k _ _ hx
  have bk₁ : ∀ b o, base.get? b = some o → h₁.get? b = some o := fun b o e => k b o (bk b o e)
  obtain ⟨pl, he⟩ := gL (ksEnv qual supSn s.heap.objs.size fI (.ref cda) cc)
  have hsub : Looks (model prog w) h₁ (isSubtype (.ref C) (.ref C)) true := looks_mroIn X₁ T.slf
  have hI : Looks (model prog w) h₁ (isInstance (.ref xe) (.type "ValueError")) true := by
    have I : InstAt h₁ xe (excO C t0) C none := ⟨hx₁, rfl, rfl, trivial⟩
    exact I.type.andThen (looks_subIn X₁ T.veC)
  obtain ⟨mb, hb1, hb2⟩ := M.blt
  refine ks_wpAt_execs_cons (ks_wpAt_Expr_any (ks_wpAt_MethodCall ?_ he))
  refine ks_wpAt_super_base (env := ksEnv qual supSn s.heap.objs.size fI (.ref cda) cc) (by with_unfolding_all rfl) (by with_unfolding_all rfl) (by decide) rfl (X₁ _ _ g3) rfl rfl rfl (X₁ _ _ g5) rfl g6 g7 T.top ?_
  refine ks_loadName_global rfl (by with_unfolding_all rfl) (loadGlobal_builtin (env := ksEnv qual supSn s.heap.objs.size fI (.ref cda) cc) (M.glob.keeps bk₁) T.gs (hb1.keeps bk₁) ((hb2 _ (by decide)).trans (show bootBuiltins "super" = some (.type "super") by decide +kernel)) ⟨rfl, ?_⟩)
  refine wpAny_loadName_free (env := ksEnv qual supSn s.heap.objs.size fI (.ref cda) cc) rfl (by with_unfolding_all rfl) rfl ⟨_, X₁ _ _ g8, rfl⟩ ?_
  refine wpAny_loadName_local (v := .ref xe) rfl (by with_unfolding_all rfl) hn (by with_unfolding_all rfl) ?_
  have hCh := X₁ _ _ hC
  refine ks_wpAny_isType_cls hCh rfl ⟨rfl, ?_⟩
  refine ks_wpAny_call_super hCh rfl hx₁ rfl (fun c e => nomatch e) hsub (fun h₂ e₂ k₂ => ?_)
  have X₂ : K.In h₂ := X₁.keeps k₂
  have hsup := T.sup
  unfold ks_superIn at hsup
  rw [hcl] at hsup
  have hne : xe ≠ C := fun z => by
    rw [z, hCh] at hx₁
    cases hx₁
  refine kxs_getMethod kxs_ValueError e₂ (looks_opaque X₂ T.dead) (l₀ := .ref C :: bm) (fun A Q E s k q => wpAny_bind ((looks_clsIn X₂ hcl) A _ E s k (wpAny_pure q))) rfl X₂ hsup (hI.keeps k₂) hne (by decide) ?_
  -- the argument
  have em : ∀ (b : Addr) (o : Obj), h₂.get? b = some o → (h₂.push (kxs_mw "ValueError.__init__" xe)).get? b = some o := fun b o e => Heap.get?_push_of_some _ e
  have emw : (h₂.push (kxs_mw "ValueError.__init__" xe)).get? h₂.objs.size = some (kxs_mw "ValueError.__init__" xe) := Heap.get?_push_at rfl rfl
  have hn₃ : (h₂.push (kxs_mw "ValueError.__init__" xe)).Ns s.heap.objs.size (fun x => [(("self" : Str), Value.ref xe), (("name" : Str), Value.str z tk0)].reverse.lookup x) := (hn.keeps k₂).keeps em
  have hx₃ := em _ _ (k₂ _ _ hx₁)
  have X₃ : K.In (h₂.push (kxs_mw "ValueError.__init__" xe)) := X₂.keeps em
  have k₃ : ∀ b o, s.heap.get? b = some o → (h₂.push (kxs_mw "ValueError.__init__" xe)).get? b = some o := fun b o e => em _ _ (k₂ _ _ (k _ _ e))
  have hsz : h₂.objs.size < (h₂.push (kxs_mw "ValueError.__init__" xe)).objs.size := by rw [Heap.size_push]; exact Nat.lt_succ_self _
  generalize h₂.push (kxs_mw "ValueError.__init__" xe) = h₃ at em emw hn₃ hx₃ X₃ k₃ hsz
  have hA : (Str.empty ++ pre).length ≤ sizeLine := by rw [Str.length_append, sizeLine_eq]; show 0 + _ ≤ _; omega
  have hB : (Str.empty ++ pre ++ z).length ≤ sizeLine := by rw [Str.length_append, Str.length_append, sizeLine_eq]; show 0 + _ + _ ≤ _; omega
  refine kxs_callWith (i := "ValueError.__init__") (x := xe) rfl (evalArgs_plain (spliced_cons (wpAny_JoinedStr (pos := a7) ?_)))
  refine wpAny_Constant_str (k := 0) (pos := a4) ⟨pre, _, rfl, hA, wpAny_FormattedValue_plain (pos := a6) (ldSn (pos := a5) (v := .str z tk0) hn₃ (by with_unfolding_all rfl) (wpAny_formatField_str ⟨_, _, rfl, hB, ⟨hB, spliced_nil ⟨emw, ?_⟩⟩⟩ ⟨_, _, rfl, hB, ⟨hB, spliced_nil ⟨emw, ?_⟩⟩⟩ (by rw [sizeLine_eq]; omega)) rfl (by with_unfolding_all rfl))⟩
  all_goals
    refine call_mwn emw (X₃ _ _ hC) hx₃ (show 1 ≤ sizeLine by rw [sizeLine_eq]; decide) (fun h₄ t1 k₄ hx₄ => ?_)
    -- self.address = address
    have notX : ∀ b o, K.lookup b = some o → b ≠ xe := fun b o e z => by
      have := M.kin _ _ e
      rw [z, hnx] at this
      cases this
    have X₄ : K.In h₄ := fun b o e => k₄ b o (notX b o e) (X₃ b o e)
    have hLx : s.heap.objs.size ≠ xe := Nat.ne_of_gt (Heap.lt_size hx)
    obtain ⟨oL, es, ep, hL, hLr⟩ := hn₃
    have hn₄ : h₄.Ns s.heap.objs.size (fun x => [(("self" : Str), Value.ref xe), (("name" : Str), Value.str z tk0)].reverse.lookup x) := ⟨oL, es, ep, k₄ _ _ hLx hL, hLr⟩
    refine ks_wpAt_execs_cons (ks_wpAt_Assign_Attr ?_)
    have e1 : (fun x => [(("self" : Str), Value.ref xe), (("name" : Str), Value.str z tk0)].reverse.lookup x) "name" = some (.str z tk0) := by with_unfolding_all rfl
    have e2 : (fun x => [(("self" : Str), Value.ref xe), (("name" : Str), Value.str z tk0)].reverse.lookup x) "self" = some (.ref xe) := by with_unfolding_all rfl
    have e3 : (ksEnv qual supSn s.heap.objs.size fI (.ref cda) cc).kindOf "name" = some .local := by with_unfolding_all rfl
    have e4 : (ksEnv qual supSn s.heap.objs.size fI (.ref cda) cc).kindOf "self" = some .local := by with_unfolding_all rfl
    refine wpAt_of_wpAny ?_
    refine ldSn hn₄ e1 ?_ (show supSn.kind = .function from rfl) e3
    refine ldSn hn₄ e2 ?_ (show supSn.kind = .function from rfl) e4
    refine set_plain X₄ (ox := excO C t1) (od := none) ⟨hx₄, rfl, rfl, trivial⟩ T.sa ?_
    refine exc_osa X₄ hx₄ hcl (show refsVE (.ref C :: bm) = true from hbm) rfl T.noN (fun h₅ tk₅ dx k₅ dn dne hx₅ hn₅ => ?_)
    refine wpAt_of_wpAny (wpAny_execs_nil (hq h₅ tk₅ dx t1 ⟨fun b o hb e => k₅ b o hb (k₄ b o hb (k₃ b o e)), hx₅, ?_, dne, hn₅⟩))
    have z : s.heap.objs.size < h₄.objs.size := hn₄.lt
    exact Nat.le_of_lt (Nat.lt_of_lt_of_le z dn)
end
end SupN
end PySem
namespace PySem
namespace SupN
open PySem.W PySem.HandSPX Calls PyProof.Rows PySem.Spec
structure OwnMade (h h' : Heap) (e C d : Addr) (v : Value) : Prop where
  keep : ∀ b o, h.get? b = some o → h'.get? b = some o
  new : h.objs.size ≤ e
  obj : ∃ t1 : Addr, h'.get? e = some { cls := .ref C, dict := some d, data := .fields #[.ref t1, .none, .none, .none, .bool false, .none] }
  dbig : h.objs.size ≤ d
  dne : d ≠ e
  ns : h'.Ns1 d (fun y => if y = "name" then some v else none)
section
variable {prog : Program} {w : World} {A : Around} {E : Value → Shared → Prop} {R : Result → Shared → Prop} {s : Shared} {K : Frag} {mg : Str → Option Value} {C : Addr} {x pre : Str} {base : Heap}
theorem sup_made (T : SupTxt prog K mg C x pre) (M : L2.Mod K mg base) {z : Str} {tk0 : Tok} (bk : ∀ b o, base.get? b = some o → s.heap.get? b = some o) (hlim : s.heap.NoLimit) (hroom : A.depth + 1 < recursionLimit) (hi : z.length ≤ 1000) (hpre : pre.length ≤ 1000)
    (hq : ∀ h' tk e d, OwnMade s.heap h' e C d (.str z tk0) → R (.ok (.ret (.ref e))) { s with heap := h', toks := tk }) :
    codeAny (model prog w) A (.call (.ref C) ⟨[.str z tk0], []⟩) R s := by
  obtain ⟨nm, q, N, bs, bm, sn, sub, ab, col, dd, k0, k1, k2, k3, k5, hC, hbm⟩ := T.cls
  obtain ⟨fI, cc, cda, oc, od, doc, pm, an, ct, osl, p1, p2, a1, a2, a3, a4, a5, a6, a7, a8, a9, a10, a11, a12, a13, vs, file, tf, ccl, cdd, ccs, cl, cld, csl, qual, g1, g2, g3, g4, g5, g6, g7, g8, gL⟩ := T.fn
  have X : K.In s.heap := M.kin.keeps bk
  obtain ⟨hp, g, dr, tk, os⟩ := s
  have k : ∀ b o, hp.get? b = some o → ((hp.push (kdv_tup [Value.str z tk0])).push (excO C hp.objs.size)).get? b = some o := fun b o e => Heap.get?_push_of_some _ (Heap.get?_push_of_some _ e)
  have hget : ((hp.push (kdv_tup [Value.str z tk0])).push (excO C hp.objs.size)).get? (hp.objs.size + 1) = some (excO C hp.objs.size) := by heap_get
  have hnx : base.get? (hp.objs.size + 1) = none := by
    cases e : base.get? (hp.objs.size + 1) with
    | none => rfl
    | some o =>
      have z : hp.get? (hp.objs.size + 1) = some o := bk _ _ e
      exact absurd (Nat.lt_of_succ_lt (Heap.lt_size z)) (Nat.lt_irrefl _)
  refine call_own F.excBase_ValueError (fun X => refsVE_contains X bm hbm) (X _ _ hC) (looks_findIn X g1) (fun self => bind_fn X self g2) (PySem.SupX.one_size _) ?_
  refine sup_init (s := ⟨(hp.push (kdv_tup [Value.str z tk0])).push (excO C hp.objs.size), g, dr, tk, os⟩) T M (fun b o e => k b o (bk b o e)) (hlim.keeps k) hget hnx ?_ g1 hi hpre fun h' tk' dx t1 ⟨k', hx, dn, dne, hns⟩ => ?_
  · show A.depth + 1 < recursionLimit
    exact hroom
  · have old : ∀ b o, hp.get? b = some o → h'.get? b = some o := fun b o e => k' b o (Nat.ne_of_lt (Nat.lt_succ_of_lt (Heap.lt_size e))) (k b o e)
    have z : hp.objs.size + 1 + 1 ≤ dx := by
      first
        | (simpa only [Heap.size_push] using dn)
        | exact dn
        | (have q := dn; rw [Heap.size_push, Heap.size_push] at q; exact q)
    exact ⟨rfl, hq h' tk' (hp.objs.size + 1) dx ⟨old, Nat.le_succ _, ⟨t1, hx⟩, Nat.le_trans (Nat.le_trans (Nat.le_succ _) (Nat.le_succ _)) z, dne, hns⟩⟩
end
end SupN
end PySem
namespace L3
open PySem PySem.Spec PyProof.Rows L2
/-- the dict of such an exception -/
def xdN (z : Str) : HO := .xd [(("name" : Str), V.str z)]
theorem relO_name {v : V} {v' : Value} (r : RelV v v') (f : Str) : RelO (List.lookup f [(("name" : Str), v)]) (if f = "name" then some v' else none) := by
  by_cases hw : f = "name"
  · subst hw
    rw [if_pos rfl]
    have q : List.lookup ("name" : Str) [(("name" : Str), v)] = some v := by simp [List.lookup]
    rw [q]
    exact r
  · rw [if_neg hw]
    have qw : (f == ("name" : Str)) = false := by simpa using hw
    have q2 : List.lookup f [(("name" : Str), v)] = none := by simp [List.lookup, qw]
    rw [q2]
    trivial
section
variable {X : Cx} {C : Addr} {x pre : Str}
/-- C(e) -/
def tMkSupN (C : Addr) (ta : TA) : L2.St → Hp → XK → Prop := fun σ H Q => ta σ H fun vs H1 => ∃ z : Str, vs = [V.str z] ∧ z.length ≤ 1000 ∧ ∀ d, H1 d = none → Q (.ref C) (some d) (upd H1 d (xdN z))
theorem pmk_supN {a : Expr} {ta : TA} {p pos : Pos} {k : Nat} (T : PySem.SupN.SupTxt X.prog X.K X.mg C x pre) (hpre : pre.length ≤ 1000) (hr : Room k X.A) (ha : PA X [a] ta) (hg : Gl X x := by rfl) (hdb : (x == ("__debug__" : Str)) = false := by decide)
    (he : starEach (a :: []) X.env = (false, eval a X.env) :: starEach [] X.env := by rfl) (hpl : (backTo pos (starEach [] X.env)).any (·.1) = false := by rfl) :
    L2N.PMk X (.Call (.Name x p) [a] [] pos) (tMkSupN C ta) := by
  intro pins s σ H Q I h
  refine wpAny_Call_Name_kw (ld_glob I hg T.gC ?_ hdb)
  refine PySem.W.callWith_K (h₀ := X.base) I.ok.mod.kin T.kC (thn (ha.run pos pins s σ H _ I h) fun us s1 hh => ?_) he hpl
  obtain ⟨vs, H1, I1, r1, z, ev, hi, q1⟩ := hh
  subst ev
  refine ⟨I1.kIn, ?_⟩
  cases r1 with
  | cons rv rn =>
    rename_i v' us'
    cases rn
    obtain ⟨tk0, rfl⟩ := rv
    show wpAny _ _ (call (.ref C) [.str z tk0]) _ _ _
    have hlim := I1.nolimit
    have bk := I1.bk
    have md := I1.mod
    obtain ⟨hp, g, dr, tk, os⟩ := s1
    refine wpAny_call (PySem.SupN.sup_made T md bk hlim (by have := hr.dp; show X.A.depth + 1 < _; omega) hi hpre fun h' tk' e d M => ?_)
    show L2N.MkP X pins σ Q (.ref e) ⟨h', g, dr, tk', os⟩
    obtain ⟨t1, hoe⟩ := M.obj
    have hns := M.ns
    obtain ⟨G', g1, g2⟩ := restrict h' fun b => decide (b ≠ e)
    have gk : ∀ b, b ≠ e → G'.get? b = h'.get? b := fun b hb => g1 b (decide_eq_true hb)
    have ge : G'.get? e = none := g2 e (by simp)
    have old : ∀ b o, hp.get? b = some o → G'.get? b = some o := fun b o q => (gk b (Nat.ne_of_lt (Nat.lt_of_lt_of_le (Heap.lt_size q) M.new))).trans (M.keep b o q)
    have ob : ObjOk X.prog X.w (upd H1 d (xdN z)) G' d (xdN z) :=
      ⟨_, hns.at (fun o q => (gk d M.dne).trans q), fun f => relO_name (v := .str z) ⟨tk0, rfl⟩ f⟩
    have J : Inv X pins σ (upd H1 d (xdN z)) ⟨G', g, dr, tk', os⟩ := I1.laid (t' := tk') old M.dbig ob
    refine ⟨e, _, _, ⟨G', g, dr, tk', os⟩, _, .ref C, some d, rfl, J, fun b o q => ?_, ge, hoe, ⟨rfl, rfl, fun vs e => by cases e; rfl⟩, rfl, rfl, ?_, rfl, I1.bare, raises_own T.exC T.tyC, q1 d (I1.hok.fresh M.dbig)⟩
    · by_cases hb : b = e
      · have q' : G'.get? b = some o := q
        rw [hb, ge] at q'; cases q'
      · exact (gk b hb).symm.trans q
    · rw [upd_ne (Ne.symm M.dne)]
      exact I1.hok.fresh M.new
end
end L3
end

section
/-! Law-independent layer 13: the own exception of three fields: part, at, why -/
namespace PySem
namespace SupT
open PySem.W PySem.HandSPX Calls PyProof.Rows PySem.Spec
def supB3 (a1 a2 a3 a4 a5 a6 a7 a8 a9 a10 a11 a12 a13 a14 a15 a16 a17 a18 a19 a20 a21 a22 a23 a24 a25 a26 a27 : Pos) : List Stmt :=
  [.Expr (.Call (.Attribute (.Call (.Name "super" a1) [] [] a2) "__init__" a3) [.JoinedStr [.Constant (.str "bad heap, ") 0 a4, .FormattedValue (.Name "part" a5) (-1) none a6, .Constant (.str " at ") 0 a7, .FormattedValue (.Name "at" a8) (-1) none a9, .Constant (.str ": ") 0 a10, .FormattedValue (.Name "why" a12) (-1) none a13] a14] [] a11) a15,
   .Assign [.Attribute (.Name "self" a16) "part" a17] (.Name "part" a18) a19,
   .Assign [.Attribute (.Name "self" a20) "at" a21] (.Name "at" a22) a23,
   .Assign [.Attribute (.Name "self" a24) "why" a25] (.Name "why" a26) a27]
def supS3 : Scope := { kind := .function, names := [("self", .local), ("part", .local), ("at", .local), ("why", .local), ("__class__", .free), ("super", .globalImplicit)], isGenerator := false, isCoroutine := false, more := [] }
def supA3 (p1 p2 p3 p4 : Pos) : Arguments := { posonlyargs := [], args := [{ arg := "self", annotation := none, pos := p1 }, { arg := "part", annotation := none, pos := p2 }, { arg := "at", annotation := none, pos := p3 }, { arg := "why", annotation := none, pos := p4 }], vararg := none, kwonlyargs := [], kw_defaults := [], kwarg := none, defaults := [] }
def SupLine3 (a1 a2 a3 a4 a5 a6 a7 a8 a9 a10 a11 a12 a13 a14 : Pos) : Prop := ∀ env : Env, ∃ pl : Sem Bool, eval (.Call (.Attribute (.Call (.Name "super" a1) [] [] a2) "__init__" a3) [.JoinedStr [.Constant (.str "bad heap, ") 0 a4, .FormattedValue (.Name "part" a5) (-1) none a6, .Constant (.str " at ") 0 a7, .FormattedValue (.Name "at" a8) (-1) none a9, .Constant (.str ": ") 0 a10, .FormattedValue (.Name "why" a12) (-1) none a13] a14] [] a11) env = (do
      let ov ← attributeBase (.Call (.Name "super" a1) [] [] a2) "__init__" env (eval (.Call (.Name "super" a1) [] [] a2) env)
      standAt a3.atName
      let (f, first) ← holding [ov] (getMethod ov "__init__" pl)
      callWith a11 f first (backTo a11 (starEach [.JoinedStr [.Constant (.str "bad heap, ") 0 a4, .FormattedValue (.Name "part" a5) (-1) none a6, .Constant (.str " at ") 0 a7, .FormattedValue (.Name "at" a8) (-1) none a9, .Constant (.str ": ") 0 a10, .FormattedValue (.Name "why" a12) (-1) none a13] a14] env)) [])
structure SupTxt3 (P : Program) (K : Frag) (mg : Str → Option Value) (C : Addr) (x : Str) : Prop where
  gC : mg x = some (.ref C)
  cls : ∃ nm q N bs bm sn sub ab col dd k0 k1 k2 k3 k5, K.lookup C = some (excClassObj nm q C N bs bm true sn sub ab col dd k0 k1 k2 k3 k5 "ValueError.__new__") ∧ refsVE bm = true
  sa : findIn K (.ref C) "__setattr__" = some (some (.builtin "object.__setattr__"))
  no1 : findIn K (.ref C) "part" = some none
  no2 : findIn K (.ref C) "at" = some none
  no3 : findIn K (.ref C) "why" = some none
  kC : keepIn K (.ref C) = true
  exC : subIn K (.ref C) (.type "BaseException") = some true
  veC : subIn K (.ref C) (.type "ValueError") = some true
  slf : mroIn K C (.ref C) = some true
  tyC : typeIn K (.ref C) = some (.type "type")
  sup : ks_superIn K C C "__init__" = some (some (.builtin "ValueError.__init__"))
  dead : nsIn K cStatics "thirdparty.any" = some none
  gs : mg "super" = none
  top : (P.main.scope.names.lookup ("super" : Str)).isSome = false
  fn : ∃ (fI cc cda : Addr) (oc : Value) (od : Option Addr) (doc pm : Value) (an : Option Addr) (ct : Value) (osl : Array (Option Value)) (p1 p2 p3 p4 a1 a2 a3 a4 a5 a6 a7 a8 a9 a10 a11 a12 a13 a14 a15 a16 a17 a18 a19 a20 a21 a22 a23 a24 a25 a26 a27 : Pos) (vs : Array Value) (file : Str) (tf : Tok) (ccl : Value) (cdd : Option Addr) (ccs : Array (Option Value)) (cl : Value) (cld : Option Addr) (csl : Array (Option Value)) (qual : Str),
    findIn K (.ref C) "__init__" = some (some (.ref fI)) ∧ typeIn K (.ref fI) = some (.type "function") ∧
    K.lookup fI = some ⟨oc, od, .func (ksFn "__init__" qual (supA3 p1 p2 p3 p4) (supB3 a1 a2 a3 a4 a5 a6 a7 a8 a9 a10 a11 a12 a13 a14 a15 a16 a17 a18 a19 a20 a21 a22 a23 a24 a25 a26 a27) supS3 .none .none doc pm an (.ref cda) ct cc), osl⟩ ∧ codeIn K (.ref cda) qual = true ∧
    K.lookup cda = some ⟨ccl, cdd, .fields vs, ccs⟩ ∧ vs[2]? = some (.str file tf) ∧ ((P.main.file : Str) == file) = true ∧ K.lookup cc = some ⟨cl, cld, .cell (some (.ref C)), csl⟩ ∧ SupLine3 a1 a2 a3 a4 a5 a6 a7 a8 a9 a10 a11 a12 a13 a14
def ns3 (v1 v2 v3 : Value) : Str → Option Value := fun y => if y = "why" then some v3 else if y = "at" then some v2 else if y = "part" then some v1 else none
structure InitEnd3 (h h' : Heap) (x C dx t1 : Addr) (v1 v2 v3 : Value) : Prop where
  keep : ∀ b o, b ≠ x → h.get? b = some o → h'.get? b = some o
  obj : h'.get? x = some { cls := .ref C, dict := some dx, data := .fields #[.ref t1, .none, .none, .none, .bool false, .none] }
  dbig : h.objs.size ≤ dx
  dne : dx ≠ x
  ns : h'.Ns1 dx (ns3 v1 v2 v3)
section
variable {prog : Program} {w : World} {A : Around} {E : Value → Shared → Prop} {R : Result → Shared → Prop} {s : Shared} {K : Frag} {mg : Str → Option Value} {C : Addr} {x : Str} {base : Heap}
theorem sup_init3 (T : SupTxt3 prog K mg C x) (M : L2.Mod K mg base) {z1 z3 : Str} {i : Int} {t1 t2 t3 : Tok} {xe t0 fI : Addr} (bk : ∀ b o, base.get? b = some o → s.heap.get? b = some o) (hlim : s.heap.NoLimit) (hx : s.heap.get? xe = some (excO C t0)) (hnx : base.get? xe = none) (hroom : A.depth < recursionLimit)
    (hf : findIn K (.ref C) "__init__" = some (some (.ref fI))) (h1 : z1.length ≤ 1000) (hi : i.natAbs.log2 < 1920) (h3 : z3.length ≤ 1000)
    (hq : ∀ h' tk dx tt, InitEnd3 s.heap h' xe C dx tt (.str z1 t1) (.int i t2) (.str z3 t3) → R (.ok (.ret .none)) { s with heap := h', toks := tk }) :
    codeAny (model prog w) A (.call (.ref fI) ⟨[.ref xe, .str z1 t1, .int i t2, .str z3 t3], []⟩) R s := by
  obtain ⟨fI', cc, cda, oc, od, doc, pm, an, ct, osl, p1, p2, p3, p4, a1, a2, a3, a4, a5, a6, a7, a8, a9, a10, a11, a12, a13, a14, a15, a16, a17, a18, a19, a20, a21, a22, a23, a24, a25, a26, a27, vs, file, tf, ccl, cdd, ccs, cl, cld, csl, qual, g1, g2, g3, g4, g5, g6, g7, g8, gL⟩ := T.fn
  obtain rfl : fI = fI' := by
    rw [hf] at g1
    exact Value.ref.inj (Option.some.inj (Option.some.inj g1))
  obtain ⟨nm, q, N, bs, bm, sn, sub, ab, col, dd, k0, k1, k2, k3, k5, hC, hbm⟩ := T.cls
  have hcl : clsIn K C = some { name := nm, bases := bs, mro := .ref C :: bm, ns := N, qualname := q, hasDict := true, slotNames := sn, subclasses := sub, abstract := ab, collection := col, hasDel := false } := by unfold clsIn; rw [hC] <;> rfl
  have X : K.In s.heap := M.kin.keeps bk
  refine ks_codeAny_call_defAt (fd := ksFn "__init__" qual (supA3 p1 p2 p3 p4) (supB3 a1 a2 a3 a4 a5 a6 a7 a8 a9 a10 a11 a12 a13 a14 a15 a16 a17 a18 a19 a20 a21 a22 a23 a24 a25 a26 a27) supS3 .none .none doc pm an (.ref cda) ct cc) (body := supB3 a1 a2 a3 a4 a5 a6 a7 a8 a9 a10 a11 a12 a13 a14 a15 a16 a17 a18 a19 a20 a21 a22 a23 a24 a25 a26 a27) (binds := [("self", .ref xe), ("part", .str z1 t1), ("at", .int i t2), ("why", .str z3 t3)])
    hroom (X _ _ g3) rfl hlim (codeRec_of X g4) rfl (BindsTo.of_eq (by first | rfl | with_unfolding_all rfl)) (show ∀ x ∈ supS3.names, x.2 ≠ .cell by decide) (fun y hy => by
      rcases List.mem_cons.mp hy with rfl | hy
      · with_unfolding_all rfl
      · rcases List.mem_cons.mp hy with rfl | hy
        · with_unfolding_all rfl
        · rcases List.mem_cons.mp hy with rfl | hy
          · with_unfolding_all rfl
          · rcases List.mem_cons.mp hy with rfl | hy
            · with_unfolding_all rfl
            · cases hy) (fun h₁ hn k => ?_) rfl rfl rfl
  have X₁ : K.In h₁ := X.keeps k
  have hx₁ := k _ _ hx
  have bk₁ : ∀ b o, base.get? b = some o → h₁.get? b = some o := fun b o e => k b o (bk b o e)
  obtain ⟨pl, he⟩ := gL (ksEnv qual supS3 s.heap.objs.size fI (.ref cda) cc)
  have hsub : Looks (model prog w) h₁ (isSubtype (.ref C) (.ref C)) true := looks_mroIn X₁ T.slf
  have hI : Looks (model prog w) h₁ (isInstance (.ref xe) (.type "ValueError")) true := by
    have I : InstAt h₁ xe (excO C t0) C none := ⟨hx₁, rfl, rfl, trivial⟩
    exact I.type.andThen (looks_subIn X₁ T.veC)
  obtain ⟨mb, hb1, hb2⟩ := M.blt
  refine ks_wpAt_execs_cons (ks_wpAt_Expr_any (ks_wpAt_MethodCall ?_ he))
  refine ks_wpAt_super_base (env := ksEnv qual supS3 s.heap.objs.size fI (.ref cda) cc) (by with_unfolding_all rfl) (by with_unfolding_all rfl) (by decide) rfl (X₁ _ _ g3) rfl rfl rfl (X₁ _ _ g5) rfl g6 g7 T.top ?_
  refine ks_loadName_global rfl (by with_unfolding_all rfl) (loadGlobal_builtin (env := ksEnv qual supS3 s.heap.objs.size fI (.ref cda) cc) (M.glob.keeps bk₁) T.gs (hb1.keeps bk₁) ((hb2 _ (by decide)).trans (show bootBuiltins "super" = some (.type "super") by decide +kernel)) ⟨rfl, ?_⟩)
  refine wpAny_loadName_free (env := ksEnv qual supS3 s.heap.objs.size fI (.ref cda) cc) rfl (by with_unfolding_all rfl) rfl ⟨_, X₁ _ _ g8, rfl⟩ ?_
  refine wpAny_loadName_local (v := .ref xe) rfl (by with_unfolding_all rfl) hn (by with_unfolding_all rfl) ?_
  have hCh := X₁ _ _ hC
  refine ks_wpAny_isType_cls hCh rfl ⟨rfl, ?_⟩
  refine ks_wpAny_call_super hCh rfl hx₁ rfl (fun c e => nomatch e) hsub (fun h₂ e₂ k₂ => ?_)
  have X₂ : K.In h₂ := X₁.keeps k₂
  have hsup := T.sup
  unfold ks_superIn at hsup
  rw [hcl] at hsup
  have hne : xe ≠ C := fun z => by
    rw [z, hCh] at hx₁
    cases hx₁
  refine kxs_getMethod kxs_ValueError e₂ (looks_opaque X₂ T.dead) (l₀ := .ref C :: bm) (fun A Q E s k q => wpAny_bind ((looks_clsIn X₂ hcl) A _ E s k (wpAny_pure q))) rfl X₂ hsup (hI.keeps k₂) hne (by decide) ?_
  -- the argument
  have em : ∀ (b : Addr) (o : Obj), h₂.get? b = some o → (h₂.push (kxs_mw "ValueError.__init__" xe)).get? b = some o := fun b o e => Heap.get?_push_of_some _ e
  have emw : (h₂.push (kxs_mw "ValueError.__init__" xe)).get? h₂.objs.size = some (kxs_mw "ValueError.__init__" xe) := Heap.get?_push_at rfl rfl
  have hn₃ : (h₂.push (kxs_mw "ValueError.__init__" xe)).Ns s.heap.objs.size (fun x => [(("self" : Str), Value.ref xe), (("part" : Str), Value.str z1 t1), (("at" : Str), Value.int i t2), (("why" : Str), Value.str z3 t3)].reverse.lookup x) := (hn.keeps k₂).keeps em
  have hx₃ := em _ _ (k₂ _ _ hx₁)
  have X₃ : K.In (h₂.push (kxs_mw "ValueError.__init__" xe)) := X₂.keeps em
  have k₃ : ∀ b o, s.heap.get? b = some o → (h₂.push (kxs_mw "ValueError.__init__" xe)).get? b = some o := fun b o e => em _ _ (k₂ _ _ (k _ _ e))
  have hsz : h₂.objs.size < (h₂.push (kxs_mw "ValueError.__init__" xe)).objs.size := by rw [Heap.size_push]; exact Nat.lt_succ_self _
  generalize h₂.push (kxs_mw "ValueError.__init__" xe) = h₃ at em emw hn₃ hx₃ X₃ k₃ hsz
  have hlen := int_text_length_le (k := 1920) (by decide) hi
  have s1 : (Str.empty ++ ("bad heap, " : Str)).length ≤ sizeLine := by rw [sizeLine_eq]; decide
  have l0 : (Str.empty ++ ("bad heap, " : Str)).length = 10 := by decide
  have s2 : (Str.empty ++ ("bad heap, " : Str) ++ z1).length ≤ sizeLine := by rw [Str.length_append, l0, sizeLine_eq]; omega
  have s3 : (Str.empty ++ ("bad heap, " : Str) ++ z1 ++ (" at " : Str)).length ≤ sizeLine := by rw [Str.length_append, Str.length_append, l0, sizeLine_eq, show (" at " : Str).length = 4 from by decide]; omega
  have s4 : (Str.empty ++ ("bad heap, " : Str) ++ z1 ++ (" at " : Str) ++ Str.ofString (toString i)).length ≤ sizeLine := by rw [Str.length_append, Str.length_append, Str.length_append, l0, show (" at " : Str).length = 4 from by decide, ofString_length, sizeLine_eq]; omega
  have s5 : (Str.empty ++ ("bad heap, " : Str) ++ z1 ++ (" at " : Str) ++ Str.ofString (toString i) ++ (": " : Str)).length ≤ sizeLine := by rw [Str.length_append, Str.length_append, Str.length_append, Str.length_append, l0, show (" at " : Str).length = 4 from by decide, show (": " : Str).length = 2 from by decide, ofString_length, sizeLine_eq]; omega
  have s6 : (Str.empty ++ ("bad heap, " : Str) ++ z1 ++ (" at " : Str) ++ Str.ofString (toString i) ++ (": " : Str) ++ z3).length ≤ sizeLine := by rw [Str.length_append, Str.length_append, Str.length_append, Str.length_append, Str.length_append, l0, show (" at " : Str).length = 4 from by decide, show (": " : Str).length = 2 from by decide, ofString_length, sizeLine_eq]; omega
  refine kxs_callWith (i := "ValueError.__init__") (x := xe) rfl (evalArgs_plain (spliced_cons (wpAny_JoinedStr (pos := a14) ?_)))
  refine wpAny_Constant_str (k := 0) (pos := a4) ⟨"bad heap, ", _, rfl, s1, wpAny_FormattedValue_plain (pos := a6) (SupN.ldSn (pos := a5) (v := .str z1 t1) hn₃ (by with_unfolding_all rfl) (wpAny_formatField_str ⟨_, _, rfl, s2, ?_⟩ ⟨_, _, rfl, s2, ?_⟩ (by rw [sizeLine_eq]; omega)) rfl (by with_unfolding_all rfl))⟩
  all_goals
    refine wpAny_Constant_str (k := 0) (pos := a7) ⟨" at ", _, rfl, s3, wpAny_FormattedValue_plain (pos := a9) (SupN.ldSn (pos := a8) (v := .int i t2) hn₃ (by with_unfolding_all rfl) (wpAny_formatField_int hi ⟨_, _, rfl, s4, ?_⟩) rfl (by with_unfolding_all rfl))⟩
    refine wpAny_Constant_str (k := 0) (pos := a10) ⟨": ", _, rfl, s5, wpAny_FormattedValue_plain (pos := a13) (SupN.ldSn (pos := a12) (v := .str z3 t3) hn₃ (by with_unfolding_all rfl) (wpAny_formatField_str ⟨_, _, rfl, s6, ⟨s6, spliced_nil ⟨emw, ?_⟩⟩⟩ ⟨_, _, rfl, s6, ⟨s6, spliced_nil ⟨emw, ?_⟩⟩⟩ (by rw [sizeLine_eq]; omega)) rfl (by with_unfolding_all rfl))⟩
  all_goals
    refine SupN.call_mwn emw (X₃ _ _ hC) hx₃ (show 1 ≤ sizeLine by rw [sizeLine_eq]; decide) (fun h₄ tt k₄ hx₄ => ?_)
    have notX : ∀ b o, K.lookup b = some o → b ≠ xe := fun b o e z => by
      have := M.kin _ _ e
      rw [z, hnx] at this
      cases this
    have X₄ : K.In h₄ := fun b o e => k₄ b o (notX b o e) (X₃ b o e)
    have hLx : s.heap.objs.size ≠ xe := Nat.ne_of_gt (Heap.lt_size hx)
    obtain ⟨oL, es, ep, hL, hLr⟩ := hn₃
    have hn₄ : h₄.Ns s.heap.objs.size (fun x => [(("self" : Str), Value.ref xe), (("part" : Str), Value.str z1 t1), (("at" : Str), Value.int i t2), (("why" : Str), Value.str z3 t3)].reverse.lookup x) := ⟨oL, es, ep, k₄ _ _ hLx hL, hLr⟩
    have f1 : (fun x => [(("self" : Str), Value.ref xe), (("part" : Str), Value.str z1 t1), (("at" : Str), Value.int i t2), (("why" : Str), Value.str z3 t3)].reverse.lookup x) "part" = some (.str z1 t1) := by with_unfolding_all rfl
    have f2 : (fun x => [(("self" : Str), Value.ref xe), (("part" : Str), Value.str z1 t1), (("at" : Str), Value.int i t2), (("why" : Str), Value.str z3 t3)].reverse.lookup x) "at" = some (.int i t2) := by with_unfolding_all rfl
    have f3 : (fun x => [(("self" : Str), Value.ref xe), (("part" : Str), Value.str z1 t1), (("at" : Str), Value.int i t2), (("why" : Str), Value.str z3 t3)].reverse.lookup x) "why" = some (.str z3 t3) := by with_unfolding_all rfl
    have f0 : (fun x => [(("self" : Str), Value.ref xe), (("part" : Str), Value.str z1 t1), (("at" : Str), Value.int i t2), (("why" : Str), Value.str z3 t3)].reverse.lookup x) "self" = some (.ref xe) := by with_unfolding_all rfl
    have j1 : (ksEnv qual supS3 s.heap.objs.size fI (.ref cda) cc).kindOf "part" = some .local := by with_unfolding_all rfl
    have j2 : (ksEnv qual supS3 s.heap.objs.size fI (.ref cda) cc).kindOf "at" = some .local := by with_unfolding_all rfl
    have j3 : (ksEnv qual supS3 s.heap.objs.size fI (.ref cda) cc).kindOf "why" = some .local := by with_unfolding_all rfl
    have j0 : (ksEnv qual supS3 s.heap.objs.size fI (.ref cda) cc).kindOf "self" = some .local := by with_unfolding_all rfl
    have z4 : s.heap.objs.size < h₄.objs.size := hn₄.lt
    refine ks_wpAt_execs_cons (ks_wpAt_Assign_Attr ?_)
    refine wpAt_of_wpAny ?_
    refine SupN.ldSn hn₄ f1 ?_ (show supS3.kind = .function from rfl) j1
    refine SupN.ldSn hn₄ f0 ?_ (show supS3.kind = .function from rfl) j0
    refine set_plain X₄ (ox := excO C tt) (od := none) ⟨hx₄, rfl, rfl, trivial⟩ T.sa ?_
    refine exc_osa X₄ hx₄ hcl (show refsVE (.ref C :: bm) = true from hbm) rfl T.no1 (fun h₅ tk₅ dx k₅ dn dne hx₅ hn₅ => ?_)
    have X₅ : K.In h₅ := fun b o e => k₅ b o (notX b o e) (X₄ b o e)
    have dxL : dx ≠ s.heap.objs.size := Nat.ne_of_gt (Nat.lt_of_lt_of_le z4 dn)
    have hn₅' : h₅.Ns s.heap.objs.size (fun x => [(("self" : Str), Value.ref xe), (("part" : Str), Value.str z1 t1), (("at" : Str), Value.int i t2), (("why" : Str), Value.str z3 t3)].reverse.lookup x) := ⟨oL, es, ep, k₅ _ _ hLx (k₄ _ _ hLx hL), hLr⟩
    obtain ⟨oD5, _, _, hoD5, _⟩ := id hn₅
    refine ks_wpAt_execs_cons (ks_wpAt_Assign_Attr ?_)
    refine wpAt_of_wpAny ?_
    refine SupN.ldSn hn₅' f2 ?_ (show supS3.kind = .function from rfl) j2
    refine SupN.ldSn hn₅' f0 ?_ (show supS3.kind = .function from rfl) j0
    refine set_plain X₅ (od := some oD5) ⟨hx₅, rfl, rfl, hoD5⟩ T.sa ?_
    have w5 : Within (fun y => if y = ("part" : Str) then some (Value.str z1 t1) else none) ["part"] := fun y hy => by
      by_cases h : y = "part"
      · rw [h]; exact List.mem_singleton.mpr rfl
      · dsimp only at hy; rw [if_neg h] at hy; exact absurd rfl hy
    refine OEX.osa_old X₅ hx₅ hn₅ w5 (by decide) hcl (show refsVE (.ref C :: bm) = true from hbm) rfl T.no2 (fun h₆ tk₆ k₆ hn₆ => ?_)
    have dxx : dx ≠ xe := dne
    have X₆ : K.In h₆ := fun b o e => k₆ b o (fun z => by
      rw [z] at e
      exact absurd (Heap.lt_size (X₄ _ _ e)) (Nat.not_lt.mpr dn)) (X₅ b o e)
    have hx₆ := k₆ _ _ (Ne.symm dxx) hx₅
    have hn₆' : h₆.Ns s.heap.objs.size (fun x => [(("self" : Str), Value.ref xe), (("part" : Str), Value.str z1 t1), (("at" : Str), Value.int i t2), (("why" : Str), Value.str z3 t3)].reverse.lookup x) := ⟨oL, es, ep, k₆ _ _ (Ne.symm dxL) (k₅ _ _ hLx (k₄ _ _ hLx hL)), hLr⟩
    obtain ⟨oD6, _, _, hoD6, _⟩ := id hn₆
    refine ks_wpAt_execs_cons (ks_wpAt_Assign_Attr ?_)
    refine wpAt_of_wpAny ?_
    refine SupN.ldSn hn₆' f3 ?_ (show supS3.kind = .function from rfl) j3
    refine SupN.ldSn hn₆' f0 ?_ (show supS3.kind = .function from rfl) j0
    refine set_plain X₆ (od := some oD6) ⟨hx₆, rfl, rfl, hoD6⟩ T.sa ?_
    have w6 : Within (fun y => if y = ("at" : Str) then some (Value.int i t2) else if y = ("part" : Str) then some (Value.str z1 t1) else none) ["at", "part"] := fun y hy => by
      by_cases h : y = "at"
      · rw [h]; exact List.mem_cons_self ..
      · by_cases h2 : y = "part"
        · rw [h2]; exact List.mem_cons_of_mem _ (List.mem_singleton.mpr rfl)
        · dsimp only at hy; rw [if_neg h, if_neg h2] at hy; exact absurd rfl hy
    refine OEX.osa_old X₆ hx₆ hn₆ w6 (by decide) hcl (show refsVE (.ref C :: bm) = true from hbm) rfl T.no3 (fun h₇ tk₇ k₇ hn₇ => ?_)
    refine wpAt_of_wpAny (wpAny_execs_nil (hq h₇ tk₇ dx tt ⟨fun b o hb e => ?_, k₇ _ _ (Ne.symm dxx) hx₆, ?_, dxx, hn₇⟩))
    · have q := k₅ b o hb (k₄ b o hb (k₃ b o e))
      have hbd : b ≠ dx := fun z => by
        rw [z] at e
        exact absurd (Heap.lt_size (k₄ _ _ dxx (k₃ _ _ e))) (Nat.not_lt.mpr dn)
      exact k₇ b o hbd (k₆ b o hbd q)
    · exact Nat.le_of_lt (Nat.lt_of_lt_of_le z4 dn)
end
end SupT
end PySem
namespace PySem
namespace SupT
open PySem.W PySem.HandSPX Calls PyProof.Rows PySem.Spec
structure OwnMade3 (h h' : Heap) (e C d : Addr) (v1 v2 v3 : Value) : Prop where
  keep : ∀ b o, h.get? b = some o → h'.get? b = some o
  new : h.objs.size ≤ e
  obj : ∃ t1 : Addr, h'.get? e = some { cls := .ref C, dict := some d, data := .fields #[.ref t1, .none, .none, .none, .bool false, .none] }
  dbig : h.objs.size ≤ d
  dne : d ≠ e
  ns : h'.Ns1 d (ns3 v1 v2 v3)
section
variable {prog : Program} {w : World} {A : Around} {E : Value → Shared → Prop} {R : Result → Shared → Prop} {s : Shared} {K : Frag} {mg : Str → Option Value} {C : Addr} {x : Str} {base : Heap}
theorem size3 (a b c : Value) : [a, b, c].length ≤ sizeLine := by rw [sizeLine_eq]; exact of_decide_eq_true rfl
theorem sup_made3 (T : SupTxt3 prog K mg C x) (M : L2.Mod K mg base) {z1 z3 : Str} {i : Int} {t1 t2 t3 : Tok} (bk : ∀ b o, base.get? b = some o → s.heap.get? b = some o) (hlim : s.heap.NoLimit) (hroom : A.depth + 1 < recursionLimit) (hl1 : z1.length ≤ 1000) (hi : i.natAbs.log2 < 1920) (hl3 : z3.length ≤ 1000)
    (hq : ∀ h' tk e d, OwnMade3 s.heap h' e C d (.str z1 t1) (.int i t2) (.str z3 t3) → R (.ok (.ret (.ref e))) { s with heap := h', toks := tk }) :
    codeAny (model prog w) A (.call (.ref C) ⟨[.str z1 t1, .int i t2, .str z3 t3], []⟩) R s := by
  obtain ⟨nm, q, N, bs, bm, sn, sub, ab, col, dd, k0, k1, k2, k3, k5, hC, hbm⟩ := T.cls
  obtain ⟨fI, cc, cda, oc, od, doc, pm, an, ct, osl, p1, p2, p3, p4, a1, a2, a3, a4, a5, a6, a7, a8, a9, a10, a11, a12, a13, a14, a15, a16, a17, a18, a19, a20, a21, a22, a23, a24, a25, a26, a27, vs, file, tf, ccl, cdd, ccs, cl, cld, csl, qual, g1, g2, g3, g4, g5, g6, g7, g8, gL⟩ := T.fn
  have X : K.In s.heap := M.kin.keeps bk
  obtain ⟨hp, g, dr, tk, os⟩ := s
  have k : ∀ b o, hp.get? b = some o → ((hp.push (kdv_tup [Value.str z1 t1, Value.int i t2, Value.str z3 t3])).push (excO C hp.objs.size)).get? b = some o := fun b o e => Heap.get?_push_of_some _ (Heap.get?_push_of_some _ e)
  have hget : ((hp.push (kdv_tup [Value.str z1 t1, Value.int i t2, Value.str z3 t3])).push (excO C hp.objs.size)).get? (hp.objs.size + 1) = some (excO C hp.objs.size) := by heap_get
  have hnx : base.get? (hp.objs.size + 1) = none := by
    cases e : base.get? (hp.objs.size + 1) with
    | none => rfl
    | some o =>
      have z : hp.get? (hp.objs.size + 1) = some o := bk _ _ e
      exact absurd (Nat.lt_of_succ_lt (Heap.lt_size z)) (Nat.lt_irrefl _)
  refine call_own F.excBase_ValueError (fun X => refsVE_contains X bm hbm) (X _ _ hC) (looks_findIn X g1) (fun self => bind_fn X self g2) (size3 _ _ _) ?_
  refine sup_init3 (s := ⟨(hp.push (kdv_tup [Value.str z1 t1, Value.int i t2, Value.str z3 t3])).push (excO C hp.objs.size), g, dr, tk, os⟩) T M (fun b o e => k b o (bk b o e)) (hlim.keeps k) hget hnx ?_ g1 hl1 hi hl3 fun h' tk' dx tt ⟨k', hx, dn, dne, hns⟩ => ?_
  · show A.depth + 1 < recursionLimit
    exact hroom
  · have old : ∀ b o, hp.get? b = some o → h'.get? b = some o := fun b o e => k' b o (Nat.ne_of_lt (Nat.lt_succ_of_lt (Heap.lt_size e))) (k b o e)
    have z : hp.objs.size + 1 + 1 ≤ dx := by
      first
        | (simpa only [Heap.size_push] using dn)
        | exact dn
        | (have q := dn; rw [Heap.size_push, Heap.size_push] at q; exact q)
    exact ⟨rfl, hq h' tk' (hp.objs.size + 1) dx ⟨old, Nat.le_succ _, ⟨tt, hx⟩, Nat.le_trans (Nat.le_trans (Nat.le_succ _) (Nat.le_succ _)) z, dne, hns⟩⟩
end
end SupT
end PySem
namespace L3
open PySem PySem.Spec PyProof.Rows L2
/-- the dict of such an exception -/
def xdT (z1 : Str) (i : Int) (z3 : Str) : HO := .xd [(("part" : Str), V.str z1), (("at" : Str), V.int i), (("why" : Str), V.str z3)]
theorem relO_three {v1 v2 v3 : V} {v1' v2' v3' : Value} (r1 : RelV v1 v1') (r2 : RelV v2 v2') (r3 : RelV v3 v3') (f : Str) : RelO (List.lookup f [(("part" : Str), v1), (("at" : Str), v2), (("why" : Str), v3)]) (PySem.SupT.ns3 v1' v2' v3' f) := by
  have ne1 : ¬ ("part" : Str) = "at" := by decide +kernel
  have ne2 : ¬ ("part" : Str) = "why" := by decide +kernel
  have ne3 : ¬ ("at" : Str) = "why" := by decide +kernel
  unfold PySem.SupT.ns3
  by_cases h1 : f = "part"
  · subst h1
    rw [if_neg ne2, if_neg ne1, if_pos rfl, List.lookup_cons, beq_self_eq_true]
    exact r1
  · have q1 : (f == ("part" : Str)) = false := by simpa using h1
    rw [List.lookup_cons, q1]
    by_cases h2 : f = "at"
    · subst h2
      rw [if_neg ne3, if_pos rfl]
      show RelO (List.lookup _ _) _
      rw [List.lookup_cons, beq_self_eq_true]
      exact r2
    · have q2 : (f == ("at" : Str)) = false := by simpa using h2
      show RelO (List.lookup _ _) _
      rw [List.lookup_cons, q2]
      by_cases h3 : f = "why"
      · subst h3
        rw [if_pos rfl]
        show RelO (List.lookup _ _) _
        rw [List.lookup_cons, beq_self_eq_true]
        exact r3
      · have q3 : (f == ("why" : Str)) = false := by simpa using h3
        rw [if_neg h3, if_neg h2, if_neg h1]
        show RelO (List.lookup _ _) _
        rw [List.lookup_cons, q3]
        trivial
section
variable {X : Cx} {C : Addr} {x : Str}
/-- C(a, b, c) -/
def tMkSup3 (C : Addr) (ta : TA) : L2.St → Hp → XK → Prop := fun σ H Q => ta σ H fun vs H1 => ∃ (z1 z3 : Str) (i : Int), vs = [V.str z1, V.int i, V.str z3] ∧ z1.length ≤ 1000 ∧ i.natAbs.log2 < 1920 ∧ z3.length ≤ 1000 ∧ ∀ d, H1 d = none → Q (.ref C) (some d) (upd H1 d (xdT z1 i z3))
theorem pmk_sup3 {a b c : Expr} {ta : TA} {p pos : Pos} {k : Nat} (T : PySem.SupT.SupTxt3 X.prog X.K X.mg C x) (hr : Room k X.A) (ha : PA X [a, b, c] ta) (hg : Gl X x := by rfl) (hdb : (x == ("__debug__" : Str)) = false := by decide)
    (he : starEach [a, b, c] X.env = (false, eval a X.env) :: starEach [b, c] X.env := by rfl) (hpl : (backTo pos (starEach [b, c] X.env)).any (·.1) = false := by rfl) :
    L2N.PMk X (.Call (.Name x p) [a, b, c] [] pos) (tMkSup3 C ta) := by
  intro pins s σ H Q I h
  refine wpAny_Call_Name_kw (ld_glob I hg T.gC ?_ hdb)
  refine PySem.W.callWith_K (h₀ := X.base) I.ok.mod.kin T.kC (thn (ha.run pos pins s σ H _ I h) fun us s1 hh => ?_) he hpl
  obtain ⟨vs, H1, I1, r1, z1, z3, i, ev, hl1, hi, hl3, q1⟩ := hh
  subst ev
  refine ⟨I1.kIn, ?_⟩
  cases r1 with
  | cons rv1 rn =>
  cases rn with
  | cons rv2 rn =>
  cases rn with
  | cons rv3 rn =>
    cases rn
    obtain ⟨t1, rfl⟩ := rv1
    obtain ⟨t2, rfl⟩ := rv2
    obtain ⟨t3, rfl⟩ := rv3
    show wpAny _ _ (call (.ref C) [.str z1 t1, .int i t2, .str z3 t3]) _ _ _
    have hlim := I1.nolimit
    have bk := I1.bk
    have md := I1.mod
    obtain ⟨hp, g, dr, tk, os⟩ := s1
    refine wpAny_call (PySem.SupT.sup_made3 T md bk hlim (by have := hr.dp; show X.A.depth + 1 < _; omega) hl1 hi hl3 fun h' tk' e d M => ?_)
    show L2N.MkP X pins σ Q (.ref e) ⟨h', g, dr, tk', os⟩
    obtain ⟨tt, hoe⟩ := M.obj
    have hns := M.ns
    obtain ⟨G', g1, g2⟩ := restrict h' fun b => decide (b ≠ e)
    have gk : ∀ b, b ≠ e → G'.get? b = h'.get? b := fun b hb => g1 b (decide_eq_true hb)
    have ge : G'.get? e = none := g2 e (by simp)
    have old : ∀ b o, hp.get? b = some o → G'.get? b = some o := fun b o q => (gk b (Nat.ne_of_lt (Nat.lt_of_lt_of_le (Heap.lt_size q) M.new))).trans (M.keep b o q)
    have ob : ObjOk X.prog X.w (upd H1 d (xdT z1 i z3)) G' d (xdT z1 i z3) :=
      ⟨_, hns.at (fun o q => (gk d M.dne).trans q), fun f => relO_three (v1 := .str z1) (v2 := .int i) (v3 := .str z3) ⟨t1, rfl⟩ ⟨t2, rfl⟩ ⟨t3, rfl⟩ f⟩
    have J : Inv X pins σ (upd H1 d (xdT z1 i z3)) ⟨G', g, dr, tk', os⟩ := I1.laid (t' := tk') old M.dbig ob
    refine ⟨e, _, _, ⟨G', g, dr, tk', os⟩, _, .ref C, some d, rfl, J, fun b o q => ?_, ge, hoe, ⟨rfl, rfl, fun vs e => by cases e; rfl⟩, rfl, rfl, ?_, rfl, I1.bare, raises_own T.exC T.tyC, q1 d (I1.hok.fresh M.dbig)⟩
    · by_cases hb : b = e
      · have q' : G'.get? b = some o := q
        rw [hb, ge] at q'; cases q'
      · exact (gk b hb).symm.trans q
    · rw [upd_ne (Ne.symm M.dne)]
      exact I1.hok.fresh M.new
end
end L3
end

section
/-! Law-independent layer 14: zip of tuples while an exception is handled; slices with a step; methods called with a keyword -/
namespace L3
open PySem PySem.Spec PyProof.Rows L2 HotX RZ
section
variable {prog : Program} {w : World} {A : Around} {E : Value → Shared → Prop} {s : Shared}
theorem nextOf_end_hot {it l x1 : Addr} {i : Nat} {items} {Q : Value → Shared → Prop} (hot : HotAt A x1 s.heap) (hni : x1 ≠ it)
    (hit : s.heap.IsTupleIter it l i) (hl : s.heap.IsTuple l items) (hx : items[i]? = none)
    (hE : ∀ h' e, Heap.ExtBut it s.heap h' → (∃ o, h'.get? e = some o ∧ o.cls = .type "StopIteration") → E (.ref e) { s with heap := h' }) :
    wpAny (model prog w) A (Builtin.SmallTypes.nextOf (.ref it)) Q E s := by
  obtain ⟨hh, o1, vs1, g1, d1, c1⟩ := hot
  obtain ⟨o, ho, hc, hd⟩ := id hit
  obtain ⟨ol, hol, _, nl, hdl⟩ := hl
  unfold Builtin.SmallTypes.nextOf
  refine wpAny_bind (wpAny_callSpecial?_slot (name := Str.ofString "__next__") hit.typeIs F.slot_tuple_iterator_next
    (wpAny_call_entry F.slot_tuple_iterator_next hit.typeIs F.entry_tuple_iterator_next ?_ (F.args_tuple_iterator_next_1 _)))
  show wpAny _ _ (field (.ref it) 0 >>= _) _ _ s
  refine wpAny_bind (wpAny_field ho hd (x := .ref l) rfl ?_)
  show wpAny _ _ (if (Value.ref l == Value.none) = true then _ else _) _ _ s
  rw [if_neg (show ¬ ((Value.ref l == Value.none) = true) from Bool.false_ne_true)]
  show wpAny _ _ (field (.ref it) 1 >>= _) _ _ s
  refine wpAny_bind (wpAny_field ho hd (x := .int i 0) rfl ?_)
  show wpAny _ _ (seqItems? (.ref l) >>= _) _ _ s
  refine wpAny_bind (wpAny_seqItems hol hdl ?_)
  simp only [Int.toNat_natCast, hx]
  refine wpAny_bind (wpAny_rule (wpAny_bind (wpAny_setField ho hd (by simp) ?_)))
  show wpAny _ _ (newExc (.type "StopIteration") [] >>= _) _ _ _
  refine wpAny_bind ?_
  simp only [newExc, newTuple]
  refine wpAny_bind (wpAny_newObj_type ?_ (by size_fits))
  refine wpAny_bind (m := firstArgMember _ _) (wpAny_of_eq (a := Value.none) (by first | rfl | (simp only [firstArgMember]; rfl)) ?_)
  refine wpAny_newObj_type ?_ (by size_fits)
  have g2 := (Heap.get?_update_other s.heap (Obj.mapFields (·.setIfInBounds 0 Value.none)) (Ne.symm hni)).trans g1
  refine raiseNew_hot ⟨hh, o1, vs1, Heap.get?_push_of_some _ (Heap.get?_push_of_some _ g2), d1, c1⟩ (Nat.ne_of_lt (Heap.lt_size (Heap.get?_push_of_some _ g2))) (Heap.get?_push_size _ rfl) rfl (by first | (simp; done) | (simp; omega) | (simp only [Array.size_append]; simp; omega)) ?_
  refine hE _ _ (fun b o hb e => ?_) ⟨_, Heap.get?_update_self _ (Heap.get?_push_size _ rfl) rfl, rfl⟩
  have e0 := (Heap.get?_update_other s.heap (Obj.mapFields (·.setIfInBounds 0 Value.none)) (Ne.symm hb)).trans e
  rw [Heap.get?_update_other _ _ (Nat.ne_of_gt (Heap.lt_size (Heap.get?_push_of_some _ e0)))]; exact Heap.get?_push_of_some _ (Heap.get?_push_of_some _ e0)
theorem zip_end_hot {z TI TO i1 i2 l1 l2 x1 : Addr} {k1 k2 : Nat} {xs ys : Array Value} {a b : Value} {Q : Fin → Shared → Prop} (hot : HotAt A x1 s.heap) (D : ZipApart z TI TO i1 i2 l1 l2)
    (nz : x1 ≠ z) (nO : x1 ≠ TO) (n1 : x1 ≠ i1) (n2 : x1 ≠ i2)
    (hz : IsZip s.heap z TI TO .none) (hTI : IsPair s.heap TI (.ref i1) (.ref i2)) (hTO : IsPair s.heap TO a b)
    (h1 : s.heap.IsTupleIter i1 l1 k1) (h2 : s.heap.IsTupleIter i2 l2 k2) (hl1 : s.heap.IsTuple l1 xs) (hl2 : s.heap.IsTuple l2 ys) (hend : xs[k1]? = none ∨ ys[k2]? = none)
    (hE : ∀ h' e, (∀ c o, c ≠ z → c ≠ TO → c ≠ i1 → c ≠ i2 → s.heap.get? c = some o → h'.get? c = some o) → (∃ o, h'.get? e = some o ∧ o.cls = .type "StopIteration") → E (.ref e) { s with heap := h' }) :
    wpAny (model prog w) A (Builtin.«zip.__next__» ⟨[.ref z], []⟩) Q E s := by
  obtain ⟨hh, o1, vs1, g1, d1, c1⟩ := hot
  show wpAny _ _ (field (.ref z) 2 >>= _) _ _ _
  refine wpAny_bind (wpAny_field hz rfl (x := .bool false) rfl ?_)
  show wpAny _ _ (field (.ref z) 3 >>= _) _ _ _
  refine wpAny_bind (wpAny_field hz rfl (x := .ref TI) rfl ?_)
  refine wpAny_bind (wpAny_seqItems hTI rfl ?_)
  show wpAny _ _ (Builtin.SmallTypes.ownedTupleIsFree (.ref z) >>= _) _ _ _
  refine wpAny_bind ?_
  unfold Builtin.SmallTypes.ownedTupleIsFree
  refine wpAny_bind (wpAny_field hz rfl (x := .none) rfl (wpAny_pure ?_))
  simp only [if_true]
  refine wpAny_bind (wpAny_rule ?_)
  refine wpAny_bind (wpAny_field hz rfl (x := .ref TO) rfl ?_)
  refine wpAny_bind (wpAny_setField_rec hz (by simp) fun h₁ hz₁ hs₁ => ?_)
  replace hz₁ : IsZip h₁ z TI TO .ellipsis := hz₁
  have x₁ := hs₁.extBut _ _ nz g1
  refine wpAny_bind ?_
  simp only [List.zipIdx_cons, List.zipIdx_nil, List.forIn_cons, List.forIn_nil]
  refine wpAny_bind (wpAny_bind (wpAny_onRaise ?_))
  show wpAny _ _ (Builtin.SmallTypes.nextOf (.ref i1) >>= _) _ _ _
  cases hx : xs[k1]? with
  | none =>
    refine wpAny_bind (nextOf_end_hot (x1 := x1) ⟨hh, o1, vs1, x₁, d1, c1⟩ n1 (h1.extBut hs₁.extBut D.i1z) (hl1.extBut hs₁.extBut D.l1z) hx fun h₂ e hs₂ he => ?_)
    obtain ⟨oe, hoe, hce⟩ := he
    have hz₂ : IsZip h₂ z TI TO .ellipsis := hs₂ _ _ D.i1z.symm hz₁
    have hez : e ≠ z := fun x => by subst x; rw [hz₂] at hoe; cases hoe; simp at hce
    refine wpAny_setField_rec hz₂ (by simp) fun h₃ _ hs₃ => hE h₃ e (fun c o c1 _ c3 _ x => hs₃.extBut _ _ c1 (hs₂ _ _ c3 (hs₁.extBut _ _ c1 x))) ⟨oe, hs₃.extBut _ _ hez hoe, hce⟩
  | some x =>
    have hy : ys[k2]? = none := by rcases hend with h | h; rw [hx] at h; cases h; exact h
    refine wpAny_bind (nextOf_tuple_item (h1.extBut hs₁.extBut D.i1z) (hl1.extBut hs₁.extBut D.l1z) hx fun h₂ h1₂ hs₂ => wpAny_pure ?_)
    have hTO₂ : IsPair h₂ TO a b := hs₂.extBut _ _ D.TOi1 (hs₁.extBut _ _ D.TOz hTO)
    have x₂ := hs₂.extBut _ _ n1 x₁
    refine wpAny_bind (wpAny_seqItems hTO₂ rfl ?_)
    refine wpAny_bind (wpAny_updateSeq_pair hTO₂ fun h₃ hTO₃ hs₃ => ?_)
    have x₃ := hs₃.extBut _ _ nO x₂
    refine wpAny_bind (wpAny_letGo (wpAny_pure ?_))
    refine wpAny_bind (wpAny_bind (wpAny_onRaise ?_))
    show wpAny _ _ (Builtin.SmallTypes.nextOf (.ref i2) >>= _) _ _ _
    refine wpAny_bind (nextOf_end_hot (x1 := x1) ⟨hh, o1, vs1, x₃, d1, c1⟩ n2 (((h2.extBut hs₁.extBut D.i2z).extBut hs₂.extBut D.i12.symm).extBut hs₃.extBut D.TOi2.symm)
      (((hl2.extBut hs₁.extBut D.l2z).extBut hs₂.extBut D.l2i1).extBut hs₃.extBut D.l2TO) hy fun h₄ e hs₄ he => ?_)
    obtain ⟨oe, hoe, hce⟩ := he
    have hz₄ : IsZip h₄ z TI TO .ellipsis := hs₄ _ _ D.i2z.symm (hs₃.extBut _ _ D.TOz.symm (hs₂.extBut _ _ D.i1z.symm hz₁))
    have hez : e ≠ z := fun x => by subst x; rw [hz₄] at hoe; cases hoe; simp at hce
    refine wpAny_setField_rec hz₄ (by simp) fun h₅ _ hs₅ => hE h₅ e (fun c o c1 c2 c3 c4 x => hs₅.extBut _ _ c1 (hs₄ _ _ c4 (hs₃.extBut _ _ c2 (hs₂.extBut _ _ c3 (hs₁.extBut _ _ c1 x))))) ⟨oe, hs₅.extBut _ _ hez hoe, hce⟩
theorem pyNext_zip_end_hot {z TI TO i1 i2 l1 l2 x1 : Addr} {k1 k2 : Nat} {xs ys : Array Value} {a b : Value} {Q : Option Value → Shared → Prop} (hot : HotAt A x1 s.heap) (D : ZipApart z TI TO i1 i2 l1 l2)
    (nz : x1 ≠ z) (nO : x1 ≠ TO) (n1 : x1 ≠ i1) (n2 : x1 ≠ i2)
    (hz : IsZip s.heap z TI TO .none) (hTI : IsPair s.heap TI (.ref i1) (.ref i2)) (hTO : IsPair s.heap TO a b)
    (h1 : s.heap.IsTupleIter i1 l1 k1) (h2 : s.heap.IsTupleIter i2 l2 k2) (hl1 : s.heap.IsTuple l1 xs) (hl2 : s.heap.IsTuple l2 ys) (hend : xs[k1]? = none ∨ ys[k2]? = none)
    (hQ : ∀ h', (∀ c o, c ≠ z → c ≠ TO → c ≠ i1 → c ≠ i2 → s.heap.get? c = some o → h'.get? c = some o) → Q none { s with heap := h' }) : wpAny (model prog w) A (pyNext (.ref z)) Q E s := by
  have hT : s.TypeIs (.ref z) "zip" := ⟨_, hz, rfl⟩
  unfold pyNext
  refine wpAny_bind (wpAny_attempt (wpAny_callSpecial?_slot (name := Str.ofString "__next__") hT F.slot_zip_next
    (wpAny_call_entry F.slot_zip_next hT F.entry_zip_next (zip_end_hot (x1 := x1) hot D nz nO n1 n2 hz hTI hTO h1 h2 hl1 hl2 hend fun h' e hk he => ?_) (F.args_zip_next_1 _))))
  obtain ⟨o, ho, hc⟩ := he
  refine wpAny_bind (wpAny_isInstance (T := "StopIteration") (b := true) ⟨o, ho, hc⟩ isSubtype_stop ?_)
  exact wpAny_pure (hQ _ hk)
end
theorem turn_zipTH {P : Program} {w : World} {K : PySem.W.Frag} {elts : List Expr} {kk : Nat} {tpos : Pos} {a b z TI TO i1 i2 : Addr} (D : ZipApart z TI TO i1 i2 a b) :
    L2H.TurnH P w K (.Tuple elts kk tpos) (ItzT K a b) [z, TI, TO, i1, i2] z (fun i h => IsZip h z TI TO .none ∧ IsPair h TI (.ref i1) (.ref i2) ∧ (∃ x y, IsPair h TO x y) ∧ h.IsTupleIter i1 a i ∧ h.IsTupleIter i2 b i) where
  mem := (turn_zipT (P := P) (w := w) (K := K) (elts := elts) (kk := kk) (tpos := tpos) D).mem
  obj := (turn_zipT (P := P) (w := w) (K := K) (elts := elts) (kk := kk) (tpos := tpos) D).obj
  keep := (turn_zipT (P := P) (w := w) (K := K) (elts := elts) (kk := kk) (tpos := tpos) D).keep
  item := by
    intro X hP hw hK hc i pins s σ H E I hf st hg
    subst hP hw hK
    obtain ⟨hz, hTI, ⟨x0, y0, hTO⟩, h1, h2⟩ := st
    obtain ⟨xs, ys, x, y, hqx, hqy, hx, hy⟩ := hg
    obtain ⟨its, rv, p, _⟩ := I.tuple hqx
    obtain ⟨its2, rv2, p2, _⟩ := I.tuple hqy
    obtain ⟨u, hu, ru⟩ := rv.get hx
    obtain ⟨u2, hu2, ru2⟩ := rv2.get hy
    have hzl : z < s.heap.objs.size := Heap.lt_size hz
    refine pyNext_zipT_item D hz hTI hTO h1 h2 p p2 (x := u) (y := u2) (by simpa using hu) (by simpa using hu2) fun h' z' TO' h1' h2' hT hsz hk => ?_
    refine ⟨_, rfl, wpAny_letOwnedTupleGo_zip (s := { s with heap := h' }) z' fun h'' z'' sb => ?_⟩
    have hT2 : h''.get? s.heap.objs.size = some { cls := .type "tuple", data := .seq #[u, u2] } := (sb.2 _ (Nat.ne_of_gt hzl)).trans hT
    have new : ObjOk X.prog X.w (upd H s.heap.objs.size (.tup [x, y])) h'' s.heap.objs.size (.tup [x, y]) :=
      ⟨by show 2 ≤ sizeLine; decide, [u, u2], .cons ru (.cons ru2 .nil), ⟨_, hT2, rfl, _, rfl⟩⟩
    have I1 : Inv X pins σ (upd H s.heap.objs.size (.tup [x, y])) { s with heap := h'' } :=
      I.turnedNew (t' := s.toks) (ch := [z, TI, TO, i1, i2]) (fun c o hb q => (sb.2 c (fun q' => hb (by simp [q']))).trans (hk c o (fun q' => hb (by simp [q'])) (fun q' => hb (by simp [q'])) (fun q' => hb (by simp [q'])) (fun q' => hb (by simp [q'])) q)) hf (Nat.le_refl _) new
    refine ⟨.ref s.heap.objs.size, _, I1, rfl, ⟨_, x, y, rfl, I.hok.fresh (Nat.le_refl _), rfl, fun l hl => by rw [I.tuple_inj hl hqx]; exact hx, fun l hl => by rw [I.tuple_inj hl hqy]; exact hy⟩, ⟨z'', ?_, ⟨u, u2, ?_⟩, ?_, ?_⟩, fun c hcm => ?_⟩
    · exact (sb.2 _ D.TIz).trans (hk _ _ D.TIz D.TITO D.TIi1 D.TIi2 hTI)
    · exact (sb.2 _ D.TOz).trans TO'
    · exact h1'.at fun o q => (sb.2 _ D.i1z).trans q
    · exact h2'.at fun o q => (sb.2 _ D.i2z).trans q
    · have hlt : c < s.heap.objs.size := by
        have e' : c = z ∨ c = TI ∨ c = TO ∨ c = i1 ∨ c = i2 := by simpa using hcm
        rcases e' with q | q | q | q | q
        · rw [q]; exact hzl
        · rw [q]; exact Heap.lt_size hTI
        · rw [q]; exact Heap.lt_size hTO
        · rw [q]; obtain ⟨_, e1, _⟩ := h1; exact Heap.lt_size e1
        · rw [q]; obtain ⟨_, e2, _⟩ := h2; exact Heap.lt_size e2
      rw [upd_ne (Nat.ne_of_lt hlt)]
      exact (hf c hcm).1
  done := by
    intro X hP hw hK hc i pins s σ H E I hf st hg
    subst hP hw hK
    obtain ⟨hz, hTI, ⟨x0, y0, hTO⟩, h1, h2⟩ := st
    obtain ⟨xs, ys, hqx, hqy, hend⟩ := hg
    obtain ⟨its, rv, p, _⟩ := I.tuple hqx
    obtain ⟨its2, rv2, p2, _⟩ := I.tuple hqy
    have l1 := rv.length
    have l2 := rv2.length
    have he : its.toArray[i]? = none ∨ its2.toArray[i]? = none := by
      rcases hend with q | q
      · exact .inl (by simp; omega)
      · exact .inr (by simp; omega)
    obtain ⟨x1, hot⟩ := hc.at I
    obtain ⟨hh, o1, vs1, g1, d1, c1⟩ := id hot
    have nz : x1 ≠ z := fun e => by
      rw [e, hz] at g1
      cases g1
      cases d1
      simp at c1
    have nO : x1 ≠ TO := fun e => by
      rw [e, hTO] at g1
      cases g1
      cases d1
    have ni : ∀ {i3 l3 : Addr} {k3 : Nat}, s.heap.IsTupleIter i3 l3 k3 → x1 ≠ i3 := fun {i3 l3 k3} h e => by
      obtain ⟨o, ho, _, hd⟩ := h
      rw [e, ho] at g1
      cases g1
      rw [hd] at d1
      cases d1
      simp at c1
    exact pyNext_zip_end_hot hot D nz nO (ni h1) (ni h2) hz hTI hTO h1 h2 p p2 he fun h' hk => ⟨rfl, I.turnedL (t' := s.toks) (ch := [z, TI, TO, i1, i2]) (fun c o hb q =>
      hk c o (fun q' => hb (by simp [q'])) (fun q' => hb (by simp [q'])) (fun q' => hb (by simp [q'])) (fun q' => hb (by simp [q'])) q) hf⟩
  self := fun A i s Q E st h => wpAny_pyIter_zip st.1 h
def iZipTH (K : PySem.W.Frag) (ta : TA) : TI := fun σ H R => ta σ H fun vs H1 => ∃ a b xs ys, vs = [.ref a, .ref b] ∧ SqT K H1 a xs ∧ SqT K H1 b ys ∧ R (ItzT K a b) H1
theorem pi_zipTH {X : Cx} {e e2 : Expr} {ta : TA} {p pos tpos : Pos} {elts : List Expr} {kk : Nat} (hg : Gl X "zip") (hm : X.mg "zip" = none) (ha : PA X [e, e2] ta)
    (hs : starEach [e, e2] X.env = (false, eval e X.env) :: starEach [e2] X.env := by rfl) (hpl : (backTo pos (starEach [e2] X.env)).any (·.1) = false := by rfl) :
    L2H.PIH X (.Tuple elts kk tpos) (.Call (.Name "zip" p) [e, e2] [] pos) (iZipTH X.K ta) := by
  refine ⟨fun pins s σ H R I h => ?_⟩
  refine Call_ (ld_blt I hg hm PyProof.Rows.boot_zip (PyProof.Rows.callWith_type1 (thn (ha.run pos pins s σ H _ I h) fun us s1 ⟨vs, H1, I1, r1, q1⟩ => ?_) hs hpl))
  obtain ⟨a, b, xs, ys, ex, hqx, hqy, q⟩ := q1
  subst ex
  cases r1 with
  | cons r rr =>
    cases rr with
    | cons r' rr =>
      cases rr
      cases r
      cases r'
      have fresh5 : ∀ c, c ∈ [s1.heap.objs.size + 4, s1.heap.objs.size + 2, s1.heap.objs.size + 3, s1.heap.objs.size, s1.heap.objs.size + 1] → FpOk X pins H1 c := fun c hcm => by
        have e' : c = s1.heap.objs.size + 4 ∨ c = s1.heap.objs.size + 2 ∨ c = s1.heap.objs.size + 3 ∨ c = s1.heap.objs.size ∨ c = s1.heap.objs.size + 1 := by simpa using hcm
        have hle : s1.heap.objs.size ≤ c := by
          rcases e' with z | z | z | z | z
          · rw [z]; exact Nat.le_add_right _ _
          · rw [z]; exact Nat.le_add_right _ _
          · rw [z]; exact Nat.le_add_right _ _
          · rw [z]; exact Nat.le_refl _
          · rw [z]; exact Nat.le_add_right _ _
        exact I1.fpOk hle (I1.hok.fresh hle)
      obtain ⟨its, rv, p1, _⟩ := I1.tuple hqx
      obtain ⟨its2, rv2, p2, _⟩ := I1.tuple hqy
      obtain ⟨o1, ho1, _⟩ := id p1
      obtain ⟨o2, ho2, _⟩ := id p2
      refine call_zipT (show s1.heap.IsTuple a its.toArray from p1) (show s1.heap.IsTuple b its2.toArray from p2) fun h' hz hTI hTO h1 h2 hsz hk => wpAny_pyIter_zip hz ?_
      have I2 : Inv X pins σ H1 { s1 with heap := h' } := I1.kept (t' := s1.toks) hk
      exact ⟨s1.heap.objs.size + 4, [s1.heap.objs.size + 4, s1.heap.objs.size + 2, s1.heap.objs.size + 3, s1.heap.objs.size, s1.heap.objs.size + 1], _, _, H1, rfl, I2, turn_zipTH (PySem.W.ktu_apart s1.heap.objs.size a b (Heap.lt_size ho1) (Heap.lt_size ho2)), ⟨hz, hTI, ⟨_, _, hTO⟩, h1, h2⟩, fresh5, q⟩
/-! ### slices with a step -/
theorem Vals.pick {xs : List V} {its : List Value} (r : Vals xs its) : ∀ ix : List Nat, Vals (ix.filterMap fun i => xs[i]?) (ix.filterMap fun i => its[i]?)
  | [] => .nil
  | i :: ix => by
    cases hx : xs[i]? with
    | none =>
      have h2 : its[i]? = none := by
        rw [List.getElem?_eq_none_iff] at hx ⊢
        have := r.length
        omega
      rw [List.filterMap_cons_none hx, List.filterMap_cons_none h2]
      exact Vals.pick r ix
    | some x =>
      obtain ⟨u, hu, ru⟩ := r.get hx
      rw [List.filterMap_cons_some hx, List.filterMap_cons_some hu]
      exact .cons ru (Vals.pick r ix)
/-- the items of xs[lo::st], the first ones being skipped: some of xs -/
def tStepL (K : PySem.W.Frag) (te : TE) : TE := fun σ H Q => te σ H fun x H1 => ∃ a xs, x = .ref a ∧ SqL K H1 a xs ∧ xs.length ≤ 1000 ∧ ∀ p ys, H1 p = none → (∀ y ∈ ys, y ∈ xs) → ys.length ≤ 1000 → Q (.ref p) (upd H1 p (.lst ys))
theorem pe_stepL {e : Expr} {te : TE} {X : Cx} {n m : Int} {k1 k2 : Nat} {p1 p2 p3 pos : Pos} (he : PE X e te) (hn : 0 ≤ n) (hm : 0 < m) : PE X (.Subscript e (.Slice (some (.Constant (.int n) k1 p1)) none (some (.Constant (.int m) k2 p2)) p3) pos) (tStepL X.K te) := by
  refine ⟨fun pins s σ H Q I h => ?_⟩
  refine Subscript_ (thn (he.run pins s σ H _ I h) fun v s1 ⟨x, H1, I1, r1, q1⟩ => ?_)
  obtain ⟨a, xs, ex, hx, hxl, q⟩ := q1
  subst ex
  cases r1
  have hlo : PO X (some (.Constant (.int n) k1 p1)) (tPart (tC (.int n))) := po_some pe_int
  have hst : PO X (some (.Constant (.int m) k2 p2)) (tPart (tC (.int m))) := po_some pe_int
  refine wpAny_Slice (thn (hlo.run pins s1 σ H1 (fun o H2 => o = some n ∧ H2 = H1) I1 ⟨n, rfl, rfl, rfl⟩) fun vl s2 ⟨l, H2, I2, pl, el, e2⟩ => ?_)
  subst el e2
  refine thn (po_none.run pins s2 σ H2 (fun o H3 => o = none ∧ H3 = H2) I2 ⟨rfl, rfl⟩) fun vu s3 ⟨u, H3, I3, pu, eu, e3⟩ => ?_
  subst eu e3
  refine thn (hst.run pins s3 σ H3 (fun o H4 => o = some m ∧ H4 = H3) I3 ⟨m, rfl, rfl, rfl⟩) fun vs s4 ⟨o, H4, I4, ps, eo, e4⟩ => ?_
  subst eo e4
  have I5 : Inv X pins σ H4 { s4 with heap := s4.heap.push { cls := .type "slice", data := .fields #[vl, vu, vs] } } := I4.kept (t' := s4.toks) fun b ob q => Heap.get?_push_of_some _ q
  obtain ⟨its, r, ht, hz⟩ := I5.list hx
  have hlen := r.length
  show wpAny (model X.prog X.w) X.A (subscriptTail e (.Slice (some (.Constant (.int n) k1 p1)) none (some (.Constant (.int m) k2 p2)) p3) (.ref a) (.ref s4.heap.objs.size)) (EP X pins σ Q) X.xe { s4 with heap := s4.heap.push { cls := .type "slice", data := .fields #[vl, vu, vs] } }
  refine tail_any (ops := [.ref a, .ref s4.heap.objs.size]) ht.isList.typeIs (PySem.slot_list_getitem.lookup) ?_ (by with_unfolding_all rfl)
  refine wpAny_getItem_list_slice ht.isList (Heap.IsSliceOf.new _ vl vu vs) pl pu ps (fun z => by have := Option.some.inj z; omega) ?_ (by rw [List.size_toArray]; omega)
  obtain ⟨ix, hix, hlx⟩ : ∃ ix : List Nat, slicePick its.toArray (some n) none (some m) = (ix.filterMap fun i => its[i]?).toArray ∧ ix.length ≤ its.length := by
    refine ⟨sliceRange (sliceBounds (some n) none (some m) its.toArray.size).1 (sliceBounds (some n) none (some m) its.toArray.size).2.1 (sliceBounds (some n) none (some m) its.toArray.size).2.2, ?_, ?_⟩
    · unfold slicePick
      simp only [List.getElem?_toArray]
    · unfold sliceBounds sliceRange
      simp only [Option.getD_some, List.size_toArray, List.length_map, List.length_range]
      have h1 : ¬ n < 0 := by omega
      simp only [if_pos (show m > 0 from hm), if_neg h1]
      have h2 : (0 : Int) ≤ max 0 (min n (its.length : Int)) := Int.le_max_left ..
      generalize max 0 (min n (its.length : Int)) = lo at h2
      split
      · rename_i hlt
        have h3 : ((its.length : Int) - lo + m - 1) / m ≤ its.length := by
          refine Int.ediv_le_of_le_mul hm ?_
          have : (its.length : Int) * 1 ≤ its.length * m := Int.mul_le_mul_of_nonneg_left (by omega) (by omega)
          have h4 : ((its.length : Int) - 1) * 1 ≤ ((its.length : Int) - 1) * m := Int.mul_le_mul_of_nonneg_left (by omega) (by omega)
          have h5 : (its.length : Int) * m = ((its.length : Int) - 1) * m + m := by rw [Int.sub_mul]; omega
          omega
        omega
      · simp
  rw [hix]
  have rp := Vals.pick r ix
  have lp : (ix.filterMap fun i => xs[i]?).length ≤ xs.length := by
    have := List.length_filterMap_le (fun i => xs[i]?) ix
    omega
  refine ⟨.ref _, _, I5.laid (t' := s4.toks) (o := .lst (ix.filterMap fun i => xs[i]?)) (fun b ob q => Heap.get?_push_of_some _ q) (Nat.le_refl _) ?_, rfl, q _ _ (I5.hok.fresh (Nat.le_refl _)) (fun y hy => ?_) (by omega)⟩
  · exact ⟨Nat.le_trans lp hz, _, 0, rp, Heap.get?_push_size _ rfl⟩
  · obtain ⟨i, _, hi⟩ := List.mem_filterMap.mp hy
    exact List.mem_of_getElem? hi
/-! ### a method called with a keyword -/
section
variable (P : Program) (w : World) (K : PySem.W.Frag) (mg : Str → Option Value) (base : Heap) (CX : CXT) (k : Nat)
/-- .. n values, then keywords ks: the values in the parameters' order -/
structure MetK (C : Addr) (m : Str) (n : Nat) (ps ks : List Str) (sp : Sp) : Prop where
  ok : ∃ f fd, FnOk P w K mg base CX k f fd ps sp ∧ Meth K C m f ∧ KBn K fd ps n ks (fun us ws => us ++ ws) (fun us ws => us ++ ws)
end
theorem metK_mkX {P : Program} {w : World} {K : PySem.W.Frag} {mg : Str → Option Value} {base : Heap} {CX : CXT} {k : Nat} {x qual : Str} {C : Addr} {params : Arguments} {body : List Stmt} {scope : Scope} {n : Nat} {N ps ks : List Str} {sp : Sp} {f : Addr}
    (F : ∃ fd, FunD K x qual params body scope [] [] f fd) (hm : Meth K C x f) (S : FnScope N ps scope)
    (hb : ∀ (kV doc pm : Value) (an : Option Addr) (cdv ct : Value) (us ws : List Value), us.length = n → ws.length = ks.length → bindArgs (PySem.W.fnOf x qual params body scope .none kV doc pm an cdv ct) ⟨us, ks.zip ws⟩ = pure (ps.zip (us ++ ws)))
    (len : ∀ vs H Q E, sp vs H Q E → vs.length = ps.length)
    (hbody : ∀ (f : Addr) (cdv : Value) (A : Around) (outer : List Env) (s : Shared) (H : Hp) (vs : List V) (Q : VK) (E : XK), Room k (A.deeper (envOfC qual scope s.heap.objs.size f cdv)) → sp vs H Q E →
      ∃ t, PSs (cxOf CX P w K mg base N qual scope f cdv A outer s H E) body t ∧ t { nx := fun _ H' => Q .non H', rt := Q } (start N vs) H) : MetK P w K mg base CX (k + 1) C x n ps ks sp := by
  obtain ⟨fd, F⟩ := F
  refine ⟨f, fd, F.ok S len (fun cdv A outer s H vs Q E hr h => hbody f cdv A outer s H vs Q E hr h), hm, ⟨fun s us ws _ l1 l2 => ?_, fun r rz => r.append rz⟩⟩
  obtain ⟨oc, od, dV, kV, doc, pm, an, cdv, ct, osl, rfl, lk, hcd, hD, hK⟩ := F.ex
  rcases hD with ⟨_, rfl⟩ | ⟨e, _⟩
  · exact .of_eq (hb kV doc pm an cdv ct us ws l1 l2)
  · exact absurd rfl e
def tMethK (C : Addr) (m : Str) (n j : Nat) (sp : Sp) (E : XK) (ta : TE) (t tk : TA) : TE := fun σ H Q => ta σ H fun x H1 => ∃ a dx fs, x = .ref a ∧ H1 a = some (.ins C dx fs) ∧ fs.lookup m = none ∧ t σ H1 fun vs H2 => tk σ H2 fun zs H3 => vs.length + 1 = n ∧ zs.length = j ∧ sp (x :: (vs ++ zs)) H3 Q E
theorem pe_metK {X : Cx} {CX : CXT} {k j n : Nat} {m : Str} {C : Addr} {ps ks : List Str} {sp : Sp} {E : XK} {pos apos : Pos} {e o : Expr} {es : List Expr} {kws : List Keyword} {ta : TE} {t tk : TA} {pl : Sem Bool} (he : PE X o ta) (c : Cls X.K C) (cm : MetK X.prog X.w X.K X.mg X.base CX k C m n ps ks sp) (hr : Room j X.A) (hk : k ≤ j) (hx : Passes CX X E) (ha : PA X (e :: es) t) (hkw : PK X kws tk)
    (hall : (backToKw pos (keywordEach kws X.env)).all (·.1.isSome) = true := by rfl) (hks : (backToKw pos (keywordEach kws X.env)).filterMap (·.1) = ks := by rfl)
    (hst : starEach (e :: es) X.env = (false, eval e X.env) :: starEach es X.env := by rfl) (hpl : ((backTo pos (starEach (e :: es) X.env)).any (·.1) || (backToKw pos (keywordEach kws X.env)).any (·.1.isNone)) = false := by rfl)
    (ht : eval (.Call (.Attribute o m apos) (e :: es) kws pos) X.env = (do
      let ov ← eval o X.env
      standAt apos.atName
      let (f, first) ← holding [ov] (getMethod ov m pl)
      callWith pos f first (backTo pos (starEach (e :: es) X.env)) (backToKw pos (keywordEach kws X.env))) := by rfl) :
    PE X (.Call (.Attribute o m apos) (e :: es) kws pos) (tMethK C m n ks.length sp E ta t tk) := by
  obtain ⟨f, fd, F, M, hb⟩ := cm.ok
  refine ⟨fun pins s σ H Q I h => ?_⟩
  refine PySem.W.methodCall_KW (pl := pl) (thn (he.run pins s σ H _ I h) fun u s1 ⟨x, H1, I1, rx, a, dx, fs, ex, ea, l, q⟩ => ?_) ht
  subst ex
  obtain rfl : u = Value.ref a := rx
  refine getmeth_ok I1 ea c M l ?_
  refine PySem.W.callWith_KW (first := [.ref a]) (h₀ := X.base) I.ok.mod.kin M.kp hall (thn (ha.run pos pins s1 σ H1 _ I1 q) fun us s2 ⟨vs, H2, I2, r, q2⟩ => ?_) hpl hst
  refine thn (hkw.run pos pins s2 σ H2 _ I2 q2) fun ws s3 ⟨zs, H3, I3, rz, l1, l2, q3⟩ => ⟨I3.kIn, ?_⟩
  rw [hks]
  exact run_fnN (us := .ref a :: us) (vs := .ref a :: vs) F (hr.mono hk) hb hx I3 (.cons rfl r) rz l1 l2 q3
end L3
end

section
/-! Law-independent layer 15: the Booleans of the own exceptions with a name, and of part, at, why -/
namespace L3
open PySem PySem.Spec PyProof.Rows L2 He PySem.W
def supNB (F : Str) (K : Frag) (x : Str) : Bool := clsB K (ga K x) && (decide (findIn K (.ref (ga K x)) "__setattr__" = some (some (.builtin "object.__setattr__"))) && (decide (findIn K (.ref (ga K x)) "name" = some none) && (keepIn K (.ref (ga K x)) &&
  (decide (subIn K (.ref (ga K x)) (.type "BaseException") = some true) && (decide (subIn K (.ref (ga K x)) (.type "ValueError") = some true) && (decide (mroIn K (ga K x) (.ref (ga K x)) = some true) && (decide (typeIn K (.ref (ga K x)) = some (.type "type")) &&
  (decide (ks_superIn K (ga K x) (ga K x) "__init__" = some (some (.builtin "ValueError.__init__"))) && (decide (nsIn K cStatics "thirdparty.any" = some none) && iniB F K (ga K x))))))))))
theorem supNB_ok {P : Program} {K : Frag} {mg : Str → Option Value} {x pre : Str} {p1 p2 a1 a2 a3 a4 a5 a6 a7 a8 a9 a10 a11 a12 a13 : Pos} {qual : Str} (gC : mg x = some (.ref (ga K x))) (gs : mg "super" = none) (top : (P.main.scope.names.lookup ("super" : Str)).isSome = false)
    (c : supNB P.main.file K x = true) (e : fnS K (ma K (ga K x) "__init__") = (⟨fun K => ma K (ga K x) "__init__", "__init__", qual, PySem.SupN.supAn p1 p2, PySem.SupN.supBn pre a1 a2 a3 a4 a5 a6 a7 a8 a9 a10 a11 a12 a13, PySem.SupN.supSn, ["__class__"]⟩ : Sd).val)
    (ln : PySem.SupN.SupLine pre a1 a2 a3 a4 a5 a6 a7 a8) : PySem.SupN.SupTxt P K mg (ga K x) x pre := by
  unfold supNB at c
  obtain ⟨c1, c⟩ := ba c
  obtain ⟨c2, c⟩ := ba c
  obtain ⟨c3, c⟩ := ba c
  obtain ⟨c4, c⟩ := ba c
  obtain ⟨c5, c⟩ := ba c
  obtain ⟨c6, c⟩ := ba c
  obtain ⟨c7, c⟩ := ba c
  obtain ⟨c8, c⟩ := ba c
  obtain ⟨c9, c⟩ := ba c
  obtain ⟨c10, c⟩ := ba c
  refine ⟨gC, clsB_ok c1, of_decide_eq_true c2, of_decide_eq_true c3, c4, of_decide_eq_true c5, of_decide_eq_true c6, of_decide_eq_true c7, of_decide_eq_true c8, of_decide_eq_true c9, of_decide_eq_true c10, gs, top, ?_⟩
  unfold iniB at c
  obtain ⟨d1, c⟩ := ba c
  obtain ⟨d2, c⟩ := ba c
  obtain ⟨oc, od, osl, cl, dV, kV, doc, pm, an, cdv, ct, hlk, hcl⟩ := fnS_at e
  rw [hlk] at c
  dsimp only [PySem.W.fnX] at c
  obtain ⟨d3, w1⟩ := ba c
  obtain ⟨d4, w2⟩ := ba w1
  obtain ⟨d5, w3⟩ := ba w2
  have e3 : dV = .none := of_decide_eq_true d3
  have e4 : kV = .none := of_decide_eq_true d4
  subst e3 e4
  obtain ⟨cc, rfl⟩ : ∃ cc, cl = [(("__class__" : Str), cc)] := by
    cases cl with
    | nil => cases hcl
    | cons q r =>
      cases r with
      | nil =>
        obtain ⟨n, cc⟩ := q
        have : n = ("__class__" : Str) := by
          have h := congrArg List.head? hcl
          exact Option.some.inj h
        exact ⟨cc, by rw [this]⟩
      | cons _ _ => cases congrArg List.length hcl
  dsimp only at d5
  obtain ⟨_, d6⟩ := ba d5
  clear c w1 w2 d5
  split at d6
  · rename_i clc cld v csl hcell
    have ev : v = .ref (ga K x) := of_decide_eq_true d6
    subst ev
    split at w3
    · rename_i cda
      obtain ⟨c1', w4⟩ := ba w3
      clear w3
      split at w4
      · rename_i ccl cdd vs ccs hcode
        split at w4
        · rename_i file tf hvs
          exact ⟨ma K (ga K x) "__init__", cc, cda, oc, od, doc, pm, an, ct, osl, p1, p2, a1, a2, a3, a4, a5, a6, a7, a8, a9, a10, a11, a12, a13, vs, file, tf, ccl, cdd, ccs, clc, cld, csl, qual, of_decide_eq_true d1, of_decide_eq_true d2, hlk, c1', hcode, hvs, w4, hcell, ln⟩
        · cases w4
      · cases w4
    · cases w3
  · cases d6
def supTB (F : Str) (K : Frag) (x : Str) : Bool := clsB K (ga K x) && (decide (findIn K (.ref (ga K x)) "__setattr__" = some (some (.builtin "object.__setattr__"))) && (decide (findIn K (.ref (ga K x)) "part" = some none) && (decide (findIn K (.ref (ga K x)) "at" = some none) && (decide (findIn K (.ref (ga K x)) "why" = some none) && (keepIn K (.ref (ga K x)) &&
  (decide (subIn K (.ref (ga K x)) (.type "BaseException") = some true) && (decide (subIn K (.ref (ga K x)) (.type "ValueError") = some true) && (decide (mroIn K (ga K x) (.ref (ga K x)) = some true) && (decide (typeIn K (.ref (ga K x)) = some (.type "type")) &&
  (decide (ks_superIn K (ga K x) (ga K x) "__init__" = some (some (.builtin "ValueError.__init__"))) && (decide (nsIn K cStatics "thirdparty.any" = some none) && iniB F K (ga K x))))))))))))
theorem supTB_ok {P : Program} {K : Frag} {mg : Str → Option Value} {x : Str} {p1 p2 p3 p4 a1 a2 a3 a4 a5 a6 a7 a8 a9 a10 a11 a12 a13 a14 a15 a16 a17 a18 a19 a20 a21 a22 a23 a24 a25 a26 a27 : Pos} {qual : Str} (gC : mg x = some (.ref (ga K x))) (gs : mg "super" = none) (top : (P.main.scope.names.lookup ("super" : Str)).isSome = false)
    (c : supTB P.main.file K x = true) (e : fnS K (ma K (ga K x) "__init__") = (⟨fun K => ma K (ga K x) "__init__", "__init__", qual, PySem.SupT.supA3 p1 p2 p3 p4, PySem.SupT.supB3 a1 a2 a3 a4 a5 a6 a7 a8 a9 a10 a11 a12 a13 a14 a15 a16 a17 a18 a19 a20 a21 a22 a23 a24 a25 a26 a27, PySem.SupT.supS3, ["__class__"]⟩ : Sd).val)
    (ln : PySem.SupT.SupLine3 a1 a2 a3 a4 a5 a6 a7 a8 a9 a10 a11 a12 a13 a14) : PySem.SupT.SupTxt3 P K mg (ga K x) x := by
  unfold supTB at c
  obtain ⟨c1, c⟩ := ba c
  obtain ⟨c2, c⟩ := ba c
  obtain ⟨c3, c⟩ := ba c
  obtain ⟨c4, c⟩ := ba c
  obtain ⟨c5, c⟩ := ba c
  obtain ⟨c6, c⟩ := ba c
  obtain ⟨c7, c⟩ := ba c
  obtain ⟨c8, c⟩ := ba c
  obtain ⟨c9, c⟩ := ba c
  obtain ⟨c10, c⟩ := ba c
  obtain ⟨c11, c⟩ := ba c
  obtain ⟨c12, c⟩ := ba c
  refine ⟨gC, clsB_ok c1, of_decide_eq_true c2, of_decide_eq_true c3, of_decide_eq_true c4, of_decide_eq_true c5, c6, of_decide_eq_true c7, of_decide_eq_true c8, of_decide_eq_true c9, of_decide_eq_true c10, of_decide_eq_true c11, of_decide_eq_true c12, gs, top, ?_⟩
  unfold iniB at c
  obtain ⟨d1, c⟩ := ba c
  obtain ⟨d2, c⟩ := ba c
  obtain ⟨oc, od, osl, cl, dV, kV, doc, pm, an, cdv, ct, hlk, hcl⟩ := fnS_at e
  rw [hlk] at c
  dsimp only [PySem.W.fnX] at c
  obtain ⟨d3, w1⟩ := ba c
  obtain ⟨d4, w2⟩ := ba w1
  obtain ⟨d5, w3⟩ := ba w2
  have e3 : dV = .none := of_decide_eq_true d3
  have e4 : kV = .none := of_decide_eq_true d4
  subst e3 e4
  obtain ⟨cc, rfl⟩ : ∃ cc, cl = [(("__class__" : Str), cc)] := by
    cases cl with
    | nil => cases hcl
    | cons q r =>
      cases r with
      | nil =>
        obtain ⟨n, cc⟩ := q
        have : n = ("__class__" : Str) := by
          have h := congrArg List.head? hcl
          exact Option.some.inj h
        exact ⟨cc, by rw [this]⟩
      | cons _ _ => cases congrArg List.length hcl
  dsimp only at d5
  obtain ⟨_, d6⟩ := ba d5
  clear c w1 w2 d5
  split at d6
  · rename_i clc cld v csl hcell
    have ev : v = .ref (ga K x) := of_decide_eq_true d6
    subst ev
    split at w3
    · rename_i cda
      obtain ⟨c1', w4⟩ := ba w3
      clear w3
      split at w4
      · rename_i ccl cdd vs ccs hcode
        split at w4
        · rename_i file tf hvs
          exact ⟨ma K (ga K x) "__init__", cc, cda, oc, od, doc, pm, an, ct, osl, p1, p2, p3, p4, a1, a2, a3, a4, a5, a6, a7, a8, a9, a10, a11, a12, a13, a14, a15, a16, a17, a18, a19, a20, a21, a22, a23, a24, a25, a26, a27, vs, file, tf, ccl, cdd, ccs, clc, cld, csl, qual, of_decide_eq_true d1, of_decide_eq_true d2, hlk, c1', hcode, hvs, w4, hcell, ln⟩
        · cases w4
      · cases w4
    · cases w3
  · cases d6
end L3
end

section
namespace Lw
open PySem PySem.Spec PyProof.Rows L2

/-- the i-th statement of the top -/
def top (i : Nat) : Stmt := PySem.Challenge.pw_heapshares_k06_first_arrivals_and_lost.main.body.getD i (.Pass ⟨0, 0, 0, 0⟩)
abbrev s_BadHeap_init : Stmt := inClass (top 2) 0
abbrev s_BadName_init : Stmt := inClass (top 3) 0
abbrev s_NoName_init : Stmt := inClass (top 4) 0
abbrev s_NameTaken_init : Stmt := inClass (top 5) 0
abbrev s_Clash_init : Stmt := inClass (top 7) 0
abbrev s_NotInHeap_init : Stmt := inClass (top 8) 0
abbrev s_Lost_init : Stmt := inClass (top 9) 0
abbrev s_has_letters_only : Stmt := top 15
abbrev s_is_name : Stmt := top 16
abbrev s_Heap_init : Stmt := inClass (top 20) 0
abbrev s_Heap_eq : Stmt := inClass (top 20) 1
abbrev s_Heap_add : Stmt := inClass (top 20) 2
abbrev s_Heap_sub : Stmt := inClass (top 20) 3
abbrev s_Heap_size : Stmt := inClass (top 20) 4
abbrev s_Heap_value : Stmt := inClass (top 20) 5
abbrev s_Heap_cell : Stmt := inClass (top 20) 6
abbrev s_Heap_with_name : Stmt := inClass (top 20) 7
abbrev s_Heap_without_name : Stmt := inClass (top 20) 8
abbrev s_heap_names : Stmt := top 21
abbrev s_heap_cells : Stmt := top 22
abbrev s_heap_from : Stmt := top 23
abbrev s_number_occurs : Stmt := top 24
abbrev s_address_outside : Stmt := top 25
abbrev s_heap_of_both : Stmt := top 26
abbrev s_arrival : Stmt := top 28
abbrev s_lost_cells : Stmt := top 29
abbrev s_l_pool : Stmt := top 31
abbrev s_l_draw : Stmt := top 32
abbrev s_l_large : Stmt := top 33
abbrev s_l_sort : Stmt := top 34
abbrev s_l_same : Stmt := top 35
abbrev s_l_names : Stmt := top 36
abbrev s_l_places : Stmt := top 37
abbrev s_l_due : Stmt := top 38
abbrev s_l_heap : Stmt := top 39
abbrev s_l_drawn : Stmt := top 40
abbrev s_l_made : Stmt := top 41
abbrev s_l_walk : Stmt := top 42
abbrev s_l_lost : Stmt := top 43
abbrev s_l_right : Stmt := top 44
abbrev s_l_with : Stmt := top 45
abbrev s_l_refused : Stmt := top 46
abbrev s_l_refuses : Stmt := top 47
abbrev s_law : Stmt := top 48
def d_BadHeap_init : He.DefD := ⟨("BadHeap", some "__init__"), "__init__", "BadHeap.__init__", defArgs s_BadHeap_init, defBody s_BadHeap_init, defScope s_BadHeap_init, [], []⟩
def d_BadName_init : He.DefD := ⟨("BadName", some "__init__"), "__init__", "BadName.__init__", defArgs s_BadName_init, defBody s_BadName_init, defScope s_BadName_init, [], []⟩
def d_NoName_init : He.DefD := ⟨("NoName", some "__init__"), "__init__", "NoName.__init__", defArgs s_NoName_init, defBody s_NoName_init, defScope s_NoName_init, [], []⟩
def d_NameTaken_init : He.DefD := ⟨("NameTaken", some "__init__"), "__init__", "NameTaken.__init__", defArgs s_NameTaken_init, defBody s_NameTaken_init, defScope s_NameTaken_init, [], []⟩
def d_Clash_init : He.DefD := ⟨("Clash", some "__init__"), "__init__", "Clash.__init__", defArgs s_Clash_init, defBody s_Clash_init, defScope s_Clash_init, [], []⟩
def d_NotInHeap_init : He.DefD := ⟨("NotInHeap", some "__init__"), "__init__", "NotInHeap.__init__", defArgs s_NotInHeap_init, defBody s_NotInHeap_init, defScope s_NotInHeap_init, [], []⟩
def d_Lost_init : He.DefD := ⟨("Lost", some "__init__"), "__init__", "Lost.__init__", defArgs s_Lost_init, defBody s_Lost_init, defScope s_Lost_init, [], []⟩
def d_has_letters_only : He.DefD := ⟨("has_letters_only", none), "has_letters_only", "has_letters_only", defArgs s_has_letters_only, defBody s_has_letters_only, defScope s_has_letters_only, [], []⟩
def d_is_name : He.DefD := ⟨("is_name", none), "is_name", "is_name", defArgs s_is_name, defBody s_is_name, defScope s_is_name, [], []⟩
def d_Heap_init : He.DefD := ⟨("Heap", some "__init__"), "__init__", "Heap.__init__", defArgs s_Heap_init, defBody s_Heap_init, defScope s_Heap_init, [], []⟩
def d_Heap_eq : He.DefD := ⟨("Heap", some "__eq__"), "__eq__", "Heap.__eq__", defArgs s_Heap_eq, defBody s_Heap_eq, defScope s_Heap_eq, [], []⟩
def d_Heap_add : He.DefD := ⟨("Heap", some "__add__"), "__add__", "Heap.__add__", defArgs s_Heap_add, defBody s_Heap_add, defScope s_Heap_add, [], []⟩
def d_Heap_sub : He.DefD := ⟨("Heap", some "__sub__"), "__sub__", "Heap.__sub__", defArgs s_Heap_sub, defBody s_Heap_sub, defScope s_Heap_sub, [], []⟩
def d_Heap_size : He.DefD := ⟨("Heap", some "size"), "size", "Heap.size", defArgs s_Heap_size, defBody s_Heap_size, defScope s_Heap_size, [], []⟩
def d_Heap_value : He.DefD := ⟨("Heap", some "value"), "value", "Heap.value", defArgs s_Heap_value, defBody s_Heap_value, defScope s_Heap_value, [], []⟩
def d_Heap_cell : He.DefD := ⟨("Heap", some "cell"), "cell", "Heap.cell", defArgs s_Heap_cell, defBody s_Heap_cell, defScope s_Heap_cell, [], []⟩
def d_Heap_with_name : He.DefD := ⟨("Heap", some "with_name"), "with_name", "Heap.with_name", defArgs s_Heap_with_name, defBody s_Heap_with_name, defScope s_Heap_with_name, [], []⟩
def d_Heap_without_name : He.DefD := ⟨("Heap", some "without_name"), "without_name", "Heap.without_name", defArgs s_Heap_without_name, defBody s_Heap_without_name, defScope s_Heap_without_name, [], []⟩
def d_heap_names : He.DefD := ⟨("heap_names", none), "heap_names", "heap_names", defArgs s_heap_names, defBody s_heap_names, defScope s_heap_names, [], []⟩
def d_heap_cells : He.DefD := ⟨("heap_cells", none), "heap_cells", "heap_cells", defArgs s_heap_cells, defBody s_heap_cells, defScope s_heap_cells, [], []⟩
def d_heap_from : He.DefD := ⟨("heap_from", none), "heap_from", "heap_from", defArgs s_heap_from, defBody s_heap_from, defScope s_heap_from, [], []⟩
def d_number_occurs : He.DefD := ⟨("number_occurs", none), "number_occurs", "number_occurs", defArgs s_number_occurs, defBody s_number_occurs, defScope s_number_occurs, [], []⟩
def d_address_outside : He.DefD := ⟨("address_outside", none), "address_outside", "address_outside", defArgs s_address_outside, defBody s_address_outside, defScope s_address_outside, [], []⟩
def d_heap_of_both : He.DefD := ⟨("heap_of_both", none), "heap_of_both", "heap_of_both", defArgs s_heap_of_both, defBody s_heap_of_both, defScope s_heap_of_both, [], []⟩
def d_arrival : He.DefD := ⟨("arrival", none), "arrival", "arrival", defArgs s_arrival, defBody s_arrival, defScope s_arrival, [], []⟩
def d_lost_cells : He.DefD := ⟨("lost_cells", none), "lost_cells", "lost_cells", defArgs s_lost_cells, defBody s_lost_cells, defScope s_lost_cells, [], []⟩
def d_l_pool : He.DefD := ⟨("_law_pool", none), "_law_pool", "_law_pool", defArgs s_l_pool, defBody s_l_pool, defScope s_l_pool, [], []⟩
def d_l_draw : He.DefD := ⟨("_law_draw", none), "_law_draw", "_law_draw", defArgs s_l_draw, defBody s_l_draw, defScope s_l_draw, [], []⟩
def d_l_large : He.DefD := ⟨("_law_large", none), "_law_large", "_law_large", defArgs s_l_large, defBody s_l_large, defScope s_l_large, [], []⟩
def d_l_sort : He.DefD := ⟨("_law_sort", none), "_law_sort", "_law_sort", defArgs s_l_sort, defBody s_l_sort, defScope s_l_sort, [], []⟩
def d_l_same : He.DefD := ⟨("_law_same", none), "_law_same", "_law_same", defArgs s_l_same, defBody s_l_same, defScope s_l_same, [], []⟩
def d_l_names : He.DefD := ⟨("_law_names", none), "_law_names", "_law_names", defArgs s_l_names, defBody s_l_names, defScope s_l_names, [], []⟩
def d_l_places : He.DefD := ⟨("_law_places", none), "_law_places", "_law_places", defArgs s_l_places, defBody s_l_places, defScope s_l_places, [], []⟩
def d_l_due : He.DefD := ⟨("_law_due", none), "_law_due", "_law_due", defArgs s_l_due, defBody s_l_due, defScope s_l_due, [], []⟩
def d_l_heap : He.DefD := ⟨("_law_heap", none), "_law_heap", "_law_heap", defArgs s_l_heap, defBody s_l_heap, defScope s_l_heap, [], []⟩
def d_l_drawn : He.DefD := ⟨("_law_drawn", none), "_law_drawn", "_law_drawn", defArgs s_l_drawn, defBody s_l_drawn, defScope s_l_drawn, [], []⟩
def d_l_made : He.DefD := ⟨("_law_made", none), "_law_made", "_law_made", defArgs s_l_made, defBody s_l_made, defScope s_l_made, [], []⟩
def d_l_walk : He.DefD := ⟨("_law_walk", none), "_law_walk", "_law_walk", defArgs s_l_walk, defBody s_l_walk, defScope s_l_walk, [], []⟩
def d_l_lost : He.DefD := ⟨("_law_lost", none), "_law_lost", "_law_lost", defArgs s_l_lost, defBody s_l_lost, defScope s_l_lost, [], []⟩
def d_l_right : He.DefD := ⟨("_law_right", none), "_law_right", "_law_right", defArgs s_l_right, defBody s_l_right, defScope s_l_right, [], []⟩
def d_l_with : He.DefD := ⟨("_law_with", none), "_law_with", "_law_with", defArgs s_l_with, defBody s_l_with, defScope s_l_with, [], []⟩
def d_l_refused : He.DefD := ⟨("_law_refused", none), "_law_refused", "_law_refused", defArgs s_l_refused, defBody s_l_refused, defScope s_l_refused, [], []⟩
def d_l_refuses : He.DefD := ⟨("_law_refuses", none), "_law_refuses", "_law_refuses", defArgs s_l_refuses, defBody s_l_refuses, defScope s_l_refuses, [], []⟩
def d_law : He.DefD := ⟨("law", none), "law", "law", defArgs s_law, defBody s_law, defScope s_law, [], []⟩
def fa : List He.Fa := [.glo "HeapError", .glo "BadHeap", .glo "BadName", .glo "NoName", .glo "NameTaken", .glo "OtherNames", .glo "Clash", .glo "NotInHeap", .glo "Lost", .glo "NOT_NAMES", .glo "has_letters_only", .glo "is_name", .glo "MARKS_OF_CELLS", .glo "Heap", .glo "heap_names", .glo "heap_cells", .glo "heap_from", .glo "number_occurs", .glo "address_outside", .glo "heap_of_both", .glo "arrival", .glo "lost_cells", .glo "_law_pool", .glo "_law_draw", .glo "_law_large", .glo "_law_sort", .glo "_law_same", .glo "_law_names", .glo "_law_places", .glo "_law_due", .glo "_law_heap", .glo "_law_drawn", .glo "_law_made", .glo "_law_walk", .glo "_law_lost", .glo "_law_right", .glo "_law_with", .glo "_law_refused", .glo "_law_refuses", .glo "law", .free "len", .free "int", .free "abs", .free "isinstance", .free "bool", .free "str", .free "tuple", .free "list", .free "sorted", .free "dict", .free "range", .free "enumerate", .free "zip", .free "max", .free "min", .free "all", .free "any", .free "sum", .free "ValueError", .free "super", .str "LETTERS" "abcdefghijklmnopqrstuvwxyz", .int "MOST_IN_NAME" 4, .int "WHOLE" 12, .int "MOST_VALUE" 9999, .cls "Heap", .mkr "Heap", .keep "Heap", .noat "Heap" "names", .noat "Heap" "cells", .noat "Heap" "_rows", .meth "Heap" "__init__", .meth "Heap" "__eq__", .meth "Heap" "__add__", .meth "Heap" "__sub__", .meth "Heap" "value", .meth "Heap" "cell", .meth "Heap" "with_name", .meth "Heap" "without_name", .exm "HeapError" "HeapError" true, .exc "HeapError", .exm "BadHeap" "HeapError" true, .exm "BadName" "HeapError" true, .exm "NoName" "HeapError" true, .exm "NameTaken" "HeapError" true, .exm "OtherNames" "HeapError" true, .exc "OtherNames", .exm "Clash" "HeapError" true, .exm "NotInHeap" "HeapError" true, .exm "Lost" "HeapError" true]
def fn : List He.DefD := [d_has_letters_only, d_is_name, d_Heap_init, d_Heap_eq, d_Heap_add, d_Heap_sub, d_Heap_value, d_Heap_cell, d_Heap_with_name, d_Heap_without_name, d_heap_names, d_heap_cells, d_heap_from, d_number_occurs, d_address_outside, d_heap_of_both, d_arrival, d_lost_cells, d_l_pool, d_l_draw, d_l_large, d_l_sort, d_l_same, d_l_names, d_l_places, d_l_due, d_l_heap, d_l_drawn, d_l_made, d_l_walk, d_l_lost, d_l_right, d_l_with, d_l_refused, d_l_refuses, d_law]
def ex (K : PySem.W.Frag) : Bool := He.tupB K "NOT_NAMES" [.str "nil", .str "some", .str "or", .str "any", .str "cell", .str "row", .str "proc", .str "if", .str "else", .str "end", .str "free", .str "new", .str "link", .str "mark", .str "drop"] && (He.tupB K "MARKS_OF_CELLS" [.str "a", .str "b", .str "c"])
abbrev hk : PySem.W.Hook := He.hookX 5 fa fn [] [] ex
/-- the written part and the module's names, as the head leaves them -/
structure Tx (w : World) (K : PySem.W.Frag) (mg : Str → Option Value) : Prop where
  ex : ∃ h : Heap, K.In h ∧ h.Ns mainGlobals mg ∧ He.SaysX fa fn [] [] ex w h K
section
variable {w : World} {K : PySem.W.Frag} {mg : Str → Option Value}
theorem Tx.kin (T : Tx w K mg) : ∃ h : Heap, K.In h ∧ h.Ns mainGlobals mg ∧ He.SaysD fa fn K := by
  obtain ⟨h, a, b, c⟩ := T.ex
  exact ⟨h, a, b, c.t.d⟩
theorem Tx.m_HeapError (T : Tx w K mg) : mg "HeapError" = some (.ref (He.ga K "HeapError")) := by
  obtain ⟨h, a, b, c⟩ := T.kin
  exact He.glo_ok a b (c.fact 0 (f := .glo "HeapError") rfl)
theorem Tx.c_HeapError (T : Tx w K mg) : ∃ u, mg "HeapError" = some u ∧ RelV (.ref (He.ga K "HeapError")) u := ⟨_, T.m_HeapError, rfl⟩
theorem Tx.m_BadHeap (T : Tx w K mg) : mg "BadHeap" = some (.ref (He.ga K "BadHeap")) := by
  obtain ⟨h, a, b, c⟩ := T.kin
  exact He.glo_ok a b (c.fact 1 (f := .glo "BadHeap") rfl)
theorem Tx.c_BadHeap (T : Tx w K mg) : ∃ u, mg "BadHeap" = some u ∧ RelV (.ref (He.ga K "BadHeap")) u := ⟨_, T.m_BadHeap, rfl⟩
theorem Tx.m_BadName (T : Tx w K mg) : mg "BadName" = some (.ref (He.ga K "BadName")) := by
  obtain ⟨h, a, b, c⟩ := T.kin
  exact He.glo_ok a b (c.fact 2 (f := .glo "BadName") rfl)
theorem Tx.c_BadName (T : Tx w K mg) : ∃ u, mg "BadName" = some u ∧ RelV (.ref (He.ga K "BadName")) u := ⟨_, T.m_BadName, rfl⟩
theorem Tx.m_NoName (T : Tx w K mg) : mg "NoName" = some (.ref (He.ga K "NoName")) := by
  obtain ⟨h, a, b, c⟩ := T.kin
  exact He.glo_ok a b (c.fact 3 (f := .glo "NoName") rfl)
theorem Tx.c_NoName (T : Tx w K mg) : ∃ u, mg "NoName" = some u ∧ RelV (.ref (He.ga K "NoName")) u := ⟨_, T.m_NoName, rfl⟩
theorem Tx.m_NameTaken (T : Tx w K mg) : mg "NameTaken" = some (.ref (He.ga K "NameTaken")) := by
  obtain ⟨h, a, b, c⟩ := T.kin
  exact He.glo_ok a b (c.fact 4 (f := .glo "NameTaken") rfl)
theorem Tx.c_NameTaken (T : Tx w K mg) : ∃ u, mg "NameTaken" = some u ∧ RelV (.ref (He.ga K "NameTaken")) u := ⟨_, T.m_NameTaken, rfl⟩
theorem Tx.m_OtherNames (T : Tx w K mg) : mg "OtherNames" = some (.ref (He.ga K "OtherNames")) := by
  obtain ⟨h, a, b, c⟩ := T.kin
  exact He.glo_ok a b (c.fact 5 (f := .glo "OtherNames") rfl)
theorem Tx.c_OtherNames (T : Tx w K mg) : ∃ u, mg "OtherNames" = some u ∧ RelV (.ref (He.ga K "OtherNames")) u := ⟨_, T.m_OtherNames, rfl⟩
theorem Tx.m_Clash (T : Tx w K mg) : mg "Clash" = some (.ref (He.ga K "Clash")) := by
  obtain ⟨h, a, b, c⟩ := T.kin
  exact He.glo_ok a b (c.fact 6 (f := .glo "Clash") rfl)
theorem Tx.c_Clash (T : Tx w K mg) : ∃ u, mg "Clash" = some u ∧ RelV (.ref (He.ga K "Clash")) u := ⟨_, T.m_Clash, rfl⟩
theorem Tx.m_NotInHeap (T : Tx w K mg) : mg "NotInHeap" = some (.ref (He.ga K "NotInHeap")) := by
  obtain ⟨h, a, b, c⟩ := T.kin
  exact He.glo_ok a b (c.fact 7 (f := .glo "NotInHeap") rfl)
theorem Tx.c_NotInHeap (T : Tx w K mg) : ∃ u, mg "NotInHeap" = some u ∧ RelV (.ref (He.ga K "NotInHeap")) u := ⟨_, T.m_NotInHeap, rfl⟩
theorem Tx.m_Lost (T : Tx w K mg) : mg "Lost" = some (.ref (He.ga K "Lost")) := by
  obtain ⟨h, a, b, c⟩ := T.kin
  exact He.glo_ok a b (c.fact 8 (f := .glo "Lost") rfl)
theorem Tx.c_Lost (T : Tx w K mg) : ∃ u, mg "Lost" = some u ∧ RelV (.ref (He.ga K "Lost")) u := ⟨_, T.m_Lost, rfl⟩
theorem Tx.m_NOT_NAMES (T : Tx w K mg) : mg "NOT_NAMES" = some (.ref (He.ga K "NOT_NAMES")) := by
  obtain ⟨h, a, b, c⟩ := T.kin
  exact He.glo_ok a b (c.fact 9 (f := .glo "NOT_NAMES") rfl)
theorem Tx.g_NOT_NAMES (T : Tx w K mg) : ∃ u, mg "NOT_NAMES" = some u ∧ RelV (.ref (He.ga K "NOT_NAMES")) u := ⟨_, T.m_NOT_NAMES, rfl⟩
theorem Tx.m_has_letters_only (T : Tx w K mg) : mg "has_letters_only" = some (.ref (He.ga K "has_letters_only")) := by
  obtain ⟨h, a, b, c⟩ := T.kin
  exact He.glo_ok a b (c.fact 10 (f := .glo "has_letters_only") rfl)
theorem Tx.m_is_name (T : Tx w K mg) : mg "is_name" = some (.ref (He.ga K "is_name")) := by
  obtain ⟨h, a, b, c⟩ := T.kin
  exact He.glo_ok a b (c.fact 11 (f := .glo "is_name") rfl)
theorem Tx.m_MARKS_OF_CELLS (T : Tx w K mg) : mg "MARKS_OF_CELLS" = some (.ref (He.ga K "MARKS_OF_CELLS")) := by
  obtain ⟨h, a, b, c⟩ := T.kin
  exact He.glo_ok a b (c.fact 12 (f := .glo "MARKS_OF_CELLS") rfl)
theorem Tx.g_MARKS_OF_CELLS (T : Tx w K mg) : ∃ u, mg "MARKS_OF_CELLS" = some u ∧ RelV (.ref (He.ga K "MARKS_OF_CELLS")) u := ⟨_, T.m_MARKS_OF_CELLS, rfl⟩
theorem Tx.m_Heap (T : Tx w K mg) : mg "Heap" = some (.ref (He.ga K "Heap")) := by
  obtain ⟨h, a, b, c⟩ := T.kin
  exact He.glo_ok a b (c.fact 13 (f := .glo "Heap") rfl)
theorem Tx.c_Heap (T : Tx w K mg) : ∃ u, mg "Heap" = some u ∧ RelV (.ref (He.ga K "Heap")) u := ⟨_, T.m_Heap, rfl⟩
theorem Tx.m_heap_names (T : Tx w K mg) : mg "heap_names" = some (.ref (He.ga K "heap_names")) := by
  obtain ⟨h, a, b, c⟩ := T.kin
  exact He.glo_ok a b (c.fact 14 (f := .glo "heap_names") rfl)
theorem Tx.m_heap_cells (T : Tx w K mg) : mg "heap_cells" = some (.ref (He.ga K "heap_cells")) := by
  obtain ⟨h, a, b, c⟩ := T.kin
  exact He.glo_ok a b (c.fact 15 (f := .glo "heap_cells") rfl)
theorem Tx.m_heap_from (T : Tx w K mg) : mg "heap_from" = some (.ref (He.ga K "heap_from")) := by
  obtain ⟨h, a, b, c⟩ := T.kin
  exact He.glo_ok a b (c.fact 16 (f := .glo "heap_from") rfl)
theorem Tx.m_number_occurs (T : Tx w K mg) : mg "number_occurs" = some (.ref (He.ga K "number_occurs")) := by
  obtain ⟨h, a, b, c⟩ := T.kin
  exact He.glo_ok a b (c.fact 17 (f := .glo "number_occurs") rfl)
theorem Tx.m_address_outside (T : Tx w K mg) : mg "address_outside" = some (.ref (He.ga K "address_outside")) := by
  obtain ⟨h, a, b, c⟩ := T.kin
  exact He.glo_ok a b (c.fact 18 (f := .glo "address_outside") rfl)
theorem Tx.m_heap_of_both (T : Tx w K mg) : mg "heap_of_both" = some (.ref (He.ga K "heap_of_both")) := by
  obtain ⟨h, a, b, c⟩ := T.kin
  exact He.glo_ok a b (c.fact 19 (f := .glo "heap_of_both") rfl)
theorem Tx.m_arrival (T : Tx w K mg) : mg "arrival" = some (.ref (He.ga K "arrival")) := by
  obtain ⟨h, a, b, c⟩ := T.kin
  exact He.glo_ok a b (c.fact 20 (f := .glo "arrival") rfl)
theorem Tx.m_lost_cells (T : Tx w K mg) : mg "lost_cells" = some (.ref (He.ga K "lost_cells")) := by
  obtain ⟨h, a, b, c⟩ := T.kin
  exact He.glo_ok a b (c.fact 21 (f := .glo "lost_cells") rfl)
theorem Tx.m__law_pool (T : Tx w K mg) : mg "_law_pool" = some (.ref (He.ga K "_law_pool")) := by
  obtain ⟨h, a, b, c⟩ := T.kin
  exact He.glo_ok a b (c.fact 22 (f := .glo "_law_pool") rfl)
theorem Tx.m__law_draw (T : Tx w K mg) : mg "_law_draw" = some (.ref (He.ga K "_law_draw")) := by
  obtain ⟨h, a, b, c⟩ := T.kin
  exact He.glo_ok a b (c.fact 23 (f := .glo "_law_draw") rfl)
theorem Tx.m__law_large (T : Tx w K mg) : mg "_law_large" = some (.ref (He.ga K "_law_large")) := by
  obtain ⟨h, a, b, c⟩ := T.kin
  exact He.glo_ok a b (c.fact 24 (f := .glo "_law_large") rfl)
theorem Tx.m__law_sort (T : Tx w K mg) : mg "_law_sort" = some (.ref (He.ga K "_law_sort")) := by
  obtain ⟨h, a, b, c⟩ := T.kin
  exact He.glo_ok a b (c.fact 25 (f := .glo "_law_sort") rfl)
theorem Tx.m__law_same (T : Tx w K mg) : mg "_law_same" = some (.ref (He.ga K "_law_same")) := by
  obtain ⟨h, a, b, c⟩ := T.kin
  exact He.glo_ok a b (c.fact 26 (f := .glo "_law_same") rfl)
theorem Tx.m__law_names (T : Tx w K mg) : mg "_law_names" = some (.ref (He.ga K "_law_names")) := by
  obtain ⟨h, a, b, c⟩ := T.kin
  exact He.glo_ok a b (c.fact 27 (f := .glo "_law_names") rfl)
theorem Tx.m__law_places (T : Tx w K mg) : mg "_law_places" = some (.ref (He.ga K "_law_places")) := by
  obtain ⟨h, a, b, c⟩ := T.kin
  exact He.glo_ok a b (c.fact 28 (f := .glo "_law_places") rfl)
theorem Tx.m__law_due (T : Tx w K mg) : mg "_law_due" = some (.ref (He.ga K "_law_due")) := by
  obtain ⟨h, a, b, c⟩ := T.kin
  exact He.glo_ok a b (c.fact 29 (f := .glo "_law_due") rfl)
theorem Tx.m__law_heap (T : Tx w K mg) : mg "_law_heap" = some (.ref (He.ga K "_law_heap")) := by
  obtain ⟨h, a, b, c⟩ := T.kin
  exact He.glo_ok a b (c.fact 30 (f := .glo "_law_heap") rfl)
theorem Tx.m__law_drawn (T : Tx w K mg) : mg "_law_drawn" = some (.ref (He.ga K "_law_drawn")) := by
  obtain ⟨h, a, b, c⟩ := T.kin
  exact He.glo_ok a b (c.fact 31 (f := .glo "_law_drawn") rfl)
theorem Tx.m__law_made (T : Tx w K mg) : mg "_law_made" = some (.ref (He.ga K "_law_made")) := by
  obtain ⟨h, a, b, c⟩ := T.kin
  exact He.glo_ok a b (c.fact 32 (f := .glo "_law_made") rfl)
theorem Tx.m__law_walk (T : Tx w K mg) : mg "_law_walk" = some (.ref (He.ga K "_law_walk")) := by
  obtain ⟨h, a, b, c⟩ := T.kin
  exact He.glo_ok a b (c.fact 33 (f := .glo "_law_walk") rfl)
theorem Tx.m__law_lost (T : Tx w K mg) : mg "_law_lost" = some (.ref (He.ga K "_law_lost")) := by
  obtain ⟨h, a, b, c⟩ := T.kin
  exact He.glo_ok a b (c.fact 34 (f := .glo "_law_lost") rfl)
theorem Tx.m__law_right (T : Tx w K mg) : mg "_law_right" = some (.ref (He.ga K "_law_right")) := by
  obtain ⟨h, a, b, c⟩ := T.kin
  exact He.glo_ok a b (c.fact 35 (f := .glo "_law_right") rfl)
theorem Tx.m__law_with (T : Tx w K mg) : mg "_law_with" = some (.ref (He.ga K "_law_with")) := by
  obtain ⟨h, a, b, c⟩ := T.kin
  exact He.glo_ok a b (c.fact 36 (f := .glo "_law_with") rfl)
theorem Tx.m__law_refused (T : Tx w K mg) : mg "_law_refused" = some (.ref (He.ga K "_law_refused")) := by
  obtain ⟨h, a, b, c⟩ := T.kin
  exact He.glo_ok a b (c.fact 37 (f := .glo "_law_refused") rfl)
theorem Tx.m__law_refuses (T : Tx w K mg) : mg "_law_refuses" = some (.ref (He.ga K "_law_refuses")) := by
  obtain ⟨h, a, b, c⟩ := T.kin
  exact He.glo_ok a b (c.fact 38 (f := .glo "_law_refuses") rfl)
theorem Tx.m_law (T : Tx w K mg) : mg "law" = some (.ref (He.ga K "law")) := by
  obtain ⟨h, a, b, c⟩ := T.kin
  exact He.glo_ok a b (c.fact 39 (f := .glo "law") rfl)
theorem Tx.f_len (T : Tx w K mg) : mg "len" = none := by
  obtain ⟨h, a, b, c⟩ := T.kin
  exact He.free_ok a b (c.fact 40 (f := .free "len") rfl)
theorem Tx.f_int (T : Tx w K mg) : mg "int" = none := by
  obtain ⟨h, a, b, c⟩ := T.kin
  exact He.free_ok a b (c.fact 41 (f := .free "int") rfl)
theorem Tx.f_abs (T : Tx w K mg) : mg "abs" = none := by
  obtain ⟨h, a, b, c⟩ := T.kin
  exact He.free_ok a b (c.fact 42 (f := .free "abs") rfl)
theorem Tx.f_isinstance (T : Tx w K mg) : mg "isinstance" = none := by
  obtain ⟨h, a, b, c⟩ := T.kin
  exact He.free_ok a b (c.fact 43 (f := .free "isinstance") rfl)
theorem Tx.f_bool (T : Tx w K mg) : mg "bool" = none := by
  obtain ⟨h, a, b, c⟩ := T.kin
  exact He.free_ok a b (c.fact 44 (f := .free "bool") rfl)
theorem Tx.f_str (T : Tx w K mg) : mg "str" = none := by
  obtain ⟨h, a, b, c⟩ := T.kin
  exact He.free_ok a b (c.fact 45 (f := .free "str") rfl)
theorem Tx.f_tuple (T : Tx w K mg) : mg "tuple" = none := by
  obtain ⟨h, a, b, c⟩ := T.kin
  exact He.free_ok a b (c.fact 46 (f := .free "tuple") rfl)
theorem Tx.f_list (T : Tx w K mg) : mg "list" = none := by
  obtain ⟨h, a, b, c⟩ := T.kin
  exact He.free_ok a b (c.fact 47 (f := .free "list") rfl)
theorem Tx.f_sorted (T : Tx w K mg) : mg "sorted" = none := by
  obtain ⟨h, a, b, c⟩ := T.kin
  exact He.free_ok a b (c.fact 48 (f := .free "sorted") rfl)
theorem Tx.f_dict (T : Tx w K mg) : mg "dict" = none := by
  obtain ⟨h, a, b, c⟩ := T.kin
  exact He.free_ok a b (c.fact 49 (f := .free "dict") rfl)
theorem Tx.f_range (T : Tx w K mg) : mg "range" = none := by
  obtain ⟨h, a, b, c⟩ := T.kin
  exact He.free_ok a b (c.fact 50 (f := .free "range") rfl)
theorem Tx.f_enumerate (T : Tx w K mg) : mg "enumerate" = none := by
  obtain ⟨h, a, b, c⟩ := T.kin
  exact He.free_ok a b (c.fact 51 (f := .free "enumerate") rfl)
theorem Tx.f_zip (T : Tx w K mg) : mg "zip" = none := by
  obtain ⟨h, a, b, c⟩ := T.kin
  exact He.free_ok a b (c.fact 52 (f := .free "zip") rfl)
theorem Tx.f_max (T : Tx w K mg) : mg "max" = none := by
  obtain ⟨h, a, b, c⟩ := T.kin
  exact He.free_ok a b (c.fact 53 (f := .free "max") rfl)
theorem Tx.f_min (T : Tx w K mg) : mg "min" = none := by
  obtain ⟨h, a, b, c⟩ := T.kin
  exact He.free_ok a b (c.fact 54 (f := .free "min") rfl)
theorem Tx.f_all (T : Tx w K mg) : mg "all" = none := by
  obtain ⟨h, a, b, c⟩ := T.kin
  exact He.free_ok a b (c.fact 55 (f := .free "all") rfl)
theorem Tx.f_any (T : Tx w K mg) : mg "any" = none := by
  obtain ⟨h, a, b, c⟩ := T.kin
  exact He.free_ok a b (c.fact 56 (f := .free "any") rfl)
theorem Tx.f_sum (T : Tx w K mg) : mg "sum" = none := by
  obtain ⟨h, a, b, c⟩ := T.kin
  exact He.free_ok a b (c.fact 57 (f := .free "sum") rfl)
theorem Tx.f_ValueError (T : Tx w K mg) : mg "ValueError" = none := by
  obtain ⟨h, a, b, c⟩ := T.kin
  exact He.free_ok a b (c.fact 58 (f := .free "ValueError") rfl)
theorem Tx.f_super (T : Tx w K mg) : mg "super" = none := by
  obtain ⟨h, a, b, c⟩ := T.kin
  exact He.free_ok a b (c.fact 59 (f := .free "super") rfl)
theorem Tx.g_LETTERS (T : Tx w K mg) : ∃ u, mg "LETTERS" = some u ∧ RelV (.str "abcdefghijklmnopqrstuvwxyz") u := by
  obtain ⟨h, a, b, c⟩ := T.kin
  obtain ⟨t, e⟩ := He.str_ok a b (c.fact 60 (f := .str "LETTERS" "abcdefghijklmnopqrstuvwxyz") rfl)
  exact ⟨_, e, t, rfl⟩
theorem Tx.g_MOST_IN_NAME (T : Tx w K mg) : ∃ u, mg "MOST_IN_NAME" = some u ∧ RelV (.int 4) u := by
  obtain ⟨h, a, b, c⟩ := T.kin
  obtain ⟨t, e⟩ := He.int_ok a b (c.fact 61 (f := .int "MOST_IN_NAME" 4) rfl)
  exact ⟨_, e, t, rfl⟩
theorem Tx.g_WHOLE (T : Tx w K mg) : ∃ u, mg "WHOLE" = some u ∧ RelV (.int 12) u := by
  obtain ⟨h, a, b, c⟩ := T.kin
  obtain ⟨t, e⟩ := He.int_ok a b (c.fact 62 (f := .int "WHOLE" 12) rfl)
  exact ⟨_, e, t, rfl⟩
theorem Tx.g_MOST_VALUE (T : Tx w K mg) : ∃ u, mg "MOST_VALUE" = some u ∧ RelV (.int 9999) u := by
  obtain ⟨h, a, b, c⟩ := T.kin
  obtain ⟨t, e⟩ := He.int_ok a b (c.fact 63 (f := .int "MOST_VALUE" 9999) rfl)
  exact ⟨_, e, t, rfl⟩
theorem Tx.Fcls_Heap (T : Tx w K mg) : (He.Fa.cls "Heap").ok K = true := by
  obtain ⟨h, a, b, c⟩ := T.kin
  exact c.fact 64 (f := .cls "Heap") rfl
theorem Tx.Fmkr_Heap (T : Tx w K mg) : (He.Fa.mkr "Heap").ok K = true := by
  obtain ⟨h, a, b, c⟩ := T.kin
  exact c.fact 65 (f := .mkr "Heap") rfl
theorem Tx.Fkeep_Heap (T : Tx w K mg) : (He.Fa.keep "Heap").ok K = true := by
  obtain ⟨h, a, b, c⟩ := T.kin
  exact c.fact 66 (f := .keep "Heap") rfl
theorem Tx.Fnoat_Heap_names (T : Tx w K mg) : (He.Fa.noat "Heap" "names").ok K = true := by
  obtain ⟨h, a, b, c⟩ := T.kin
  exact c.fact 67 (f := .noat "Heap" "names") rfl
theorem Tx.Fnoat_Heap_cells (T : Tx w K mg) : (He.Fa.noat "Heap" "cells").ok K = true := by
  obtain ⟨h, a, b, c⟩ := T.kin
  exact c.fact 68 (f := .noat "Heap" "cells") rfl
theorem Tx.Fnoat_Heap__rows (T : Tx w K mg) : (He.Fa.noat "Heap" "_rows").ok K = true := by
  obtain ⟨h, a, b, c⟩ := T.kin
  exact c.fact 69 (f := .noat "Heap" "_rows") rfl
theorem Tx.Fmeth_Heap___init__ (T : Tx w K mg) : (He.Fa.meth "Heap" "__init__").ok K = true := by
  obtain ⟨h, a, b, c⟩ := T.kin
  exact c.fact 70 (f := .meth "Heap" "__init__") rfl
theorem Tx.Fmeth_Heap___eq__ (T : Tx w K mg) : (He.Fa.meth "Heap" "__eq__").ok K = true := by
  obtain ⟨h, a, b, c⟩ := T.kin
  exact c.fact 71 (f := .meth "Heap" "__eq__") rfl
theorem Tx.Fmeth_Heap___add__ (T : Tx w K mg) : (He.Fa.meth "Heap" "__add__").ok K = true := by
  obtain ⟨h, a, b, c⟩ := T.kin
  exact c.fact 72 (f := .meth "Heap" "__add__") rfl
theorem Tx.Fmeth_Heap___sub__ (T : Tx w K mg) : (He.Fa.meth "Heap" "__sub__").ok K = true := by
  obtain ⟨h, a, b, c⟩ := T.kin
  exact c.fact 73 (f := .meth "Heap" "__sub__") rfl
theorem Tx.Fmeth_Heap_value (T : Tx w K mg) : (He.Fa.meth "Heap" "value").ok K = true := by
  obtain ⟨h, a, b, c⟩ := T.kin
  exact c.fact 74 (f := .meth "Heap" "value") rfl
theorem Tx.Fmeth_Heap_cell (T : Tx w K mg) : (He.Fa.meth "Heap" "cell").ok K = true := by
  obtain ⟨h, a, b, c⟩ := T.kin
  exact c.fact 75 (f := .meth "Heap" "cell") rfl
theorem Tx.Fmeth_Heap_with_name (T : Tx w K mg) : (He.Fa.meth "Heap" "with_name").ok K = true := by
  obtain ⟨h, a, b, c⟩ := T.kin
  exact c.fact 76 (f := .meth "Heap" "with_name") rfl
theorem Tx.Fmeth_Heap_without_name (T : Tx w K mg) : (He.Fa.meth "Heap" "without_name").ok K = true := by
  obtain ⟨h, a, b, c⟩ := T.kin
  exact c.fact 77 (f := .meth "Heap" "without_name") rfl
theorem Tx.Fexm_HeapError_HeapError_true (T : Tx w K mg) : (He.Fa.exm "HeapError" "HeapError" true).ok K = true := by
  obtain ⟨h, a, b, c⟩ := T.kin
  exact c.fact 78 (f := .exm "HeapError" "HeapError" true) rfl
theorem Tx.Fexc_HeapError (T : Tx w K mg) : (He.Fa.exc "HeapError").ok K = true := by
  obtain ⟨h, a, b, c⟩ := T.kin
  exact c.fact 79 (f := .exc "HeapError") rfl
theorem Tx.Fexm_BadHeap_HeapError_true (T : Tx w K mg) : (He.Fa.exm "BadHeap" "HeapError" true).ok K = true := by
  obtain ⟨h, a, b, c⟩ := T.kin
  exact c.fact 80 (f := .exm "BadHeap" "HeapError" true) rfl
theorem Tx.Fexm_BadName_HeapError_true (T : Tx w K mg) : (He.Fa.exm "BadName" "HeapError" true).ok K = true := by
  obtain ⟨h, a, b, c⟩ := T.kin
  exact c.fact 81 (f := .exm "BadName" "HeapError" true) rfl
theorem Tx.Fexm_NoName_HeapError_true (T : Tx w K mg) : (He.Fa.exm "NoName" "HeapError" true).ok K = true := by
  obtain ⟨h, a, b, c⟩ := T.kin
  exact c.fact 82 (f := .exm "NoName" "HeapError" true) rfl
theorem Tx.Fexm_NameTaken_HeapError_true (T : Tx w K mg) : (He.Fa.exm "NameTaken" "HeapError" true).ok K = true := by
  obtain ⟨h, a, b, c⟩ := T.kin
  exact c.fact 83 (f := .exm "NameTaken" "HeapError" true) rfl
theorem Tx.Fexm_OtherNames_HeapError_true (T : Tx w K mg) : (He.Fa.exm "OtherNames" "HeapError" true).ok K = true := by
  obtain ⟨h, a, b, c⟩ := T.kin
  exact c.fact 84 (f := .exm "OtherNames" "HeapError" true) rfl
theorem Tx.Fexc_OtherNames (T : Tx w K mg) : (He.Fa.exc "OtherNames").ok K = true := by
  obtain ⟨h, a, b, c⟩ := T.kin
  exact c.fact 85 (f := .exc "OtherNames") rfl
theorem Tx.Fexm_Clash_HeapError_true (T : Tx w K mg) : (He.Fa.exm "Clash" "HeapError" true).ok K = true := by
  obtain ⟨h, a, b, c⟩ := T.kin
  exact c.fact 86 (f := .exm "Clash" "HeapError" true) rfl
theorem Tx.Fexm_NotInHeap_HeapError_true (T : Tx w K mg) : (He.Fa.exm "NotInHeap" "HeapError" true).ok K = true := by
  obtain ⟨h, a, b, c⟩ := T.kin
  exact c.fact 87 (f := .exm "NotInHeap" "HeapError" true) rfl
theorem Tx.Fexm_Lost_HeapError_true (T : Tx w K mg) : (He.Fa.exm "Lost" "HeapError" true).ok K = true := by
  obtain ⟨h, a, b, c⟩ := T.kin
  exact c.fact 88 (f := .exm "Lost" "HeapError" true) rfl
theorem Tx.cls_Heap (T : Tx w K mg) : Cls K (He.ga K "Heap") := He.cls_ok T.Fcls_Heap
theorem Tx.mk_Heap (T : Tx w K mg) : Mk K (He.ga K "Heap") (He.ma K (He.ga K "Heap") "__init__") := He.mkr_ok T.Fmkr_Heap
theorem Tx.no_Heap_names (T : Tx w K mg) : NoAttr K (He.ga K "Heap") "names" := He.noat_ok T.Fnoat_Heap_names
theorem Tx.no_Heap_cells (T : Tx w K mg) : NoAttr K (He.ga K "Heap") "cells" := He.noat_ok T.Fnoat_Heap_cells
theorem Tx.no_Heap__rows (T : Tx w K mg) : NoAttr K (He.ga K "Heap") "_rows" := He.noat_ok T.Fnoat_Heap__rows
theorem Tx.me_Heap___init__ (T : Tx w K mg) : Meth K (He.ga K "Heap") "__init__" (He.ma K (He.ga K "Heap") "__init__") := He.meth_ok T.Fmeth_Heap___init__
theorem Tx.me_Heap___eq__ (T : Tx w K mg) : Meth K (He.ga K "Heap") "__eq__" (He.ma K (He.ga K "Heap") "__eq__") := He.meth_ok T.Fmeth_Heap___eq__
theorem Tx.me_Heap___add__ (T : Tx w K mg) : Meth K (He.ga K "Heap") "__add__" (He.ma K (He.ga K "Heap") "__add__") := He.meth_ok T.Fmeth_Heap___add__
theorem Tx.me_Heap___sub__ (T : Tx w K mg) : Meth K (He.ga K "Heap") "__sub__" (He.ma K (He.ga K "Heap") "__sub__") := He.meth_ok T.Fmeth_Heap___sub__
theorem Tx.me_Heap_value (T : Tx w K mg) : Meth K (He.ga K "Heap") "value" (He.ma K (He.ga K "Heap") "value") := He.meth_ok T.Fmeth_Heap_value
theorem Tx.me_Heap_cell (T : Tx w K mg) : Meth K (He.ga K "Heap") "cell" (He.ma K (He.ga K "Heap") "cell") := He.meth_ok T.Fmeth_Heap_cell
theorem Tx.me_Heap_with_name (T : Tx w K mg) : Meth K (He.ga K "Heap") "with_name" (He.ma K (He.ga K "Heap") "with_name") := He.meth_ok T.Fmeth_Heap_with_name
theorem Tx.me_Heap_without_name (T : Tx w K mg) : Meth K (He.ga K "Heap") "without_name" (He.ma K (He.ga K "Heap") "without_name") := He.meth_ok T.Fmeth_Heap_without_name
theorem Tx.D_has_letters_only (T : Tx w K mg) : ∃ fd, FunD K "has_letters_only" "has_letters_only" (defArgs s_has_letters_only) (defBody s_has_letters_only) (defScope s_has_letters_only) [] [] (He.fAd K ("has_letters_only", none)) fd := by
  obtain ⟨h, a, b, c⟩ := T.kin
  exact c.def_ 0 (d := d_has_letters_only) rfl
theorem Tx.D_is_name (T : Tx w K mg) : ∃ fd, FunD K "is_name" "is_name" (defArgs s_is_name) (defBody s_is_name) (defScope s_is_name) [] [] (He.fAd K ("is_name", none)) fd := by
  obtain ⟨h, a, b, c⟩ := T.kin
  exact c.def_ 1 (d := d_is_name) rfl
theorem Tx.D_Heap_init (T : Tx w K mg) : ∃ fd, FunD K "__init__" "Heap.__init__" (defArgs s_Heap_init) (defBody s_Heap_init) (defScope s_Heap_init) [] [] (He.fAd K ("Heap", some "__init__")) fd := by
  obtain ⟨h, a, b, c⟩ := T.kin
  exact c.def_ 2 (d := d_Heap_init) rfl
theorem Tx.D_Heap_eq (T : Tx w K mg) : ∃ fd, FunD K "__eq__" "Heap.__eq__" (defArgs s_Heap_eq) (defBody s_Heap_eq) (defScope s_Heap_eq) [] [] (He.fAd K ("Heap", some "__eq__")) fd := by
  obtain ⟨h, a, b, c⟩ := T.kin
  exact c.def_ 3 (d := d_Heap_eq) rfl
theorem Tx.D_Heap_add (T : Tx w K mg) : ∃ fd, FunD K "__add__" "Heap.__add__" (defArgs s_Heap_add) (defBody s_Heap_add) (defScope s_Heap_add) [] [] (He.fAd K ("Heap", some "__add__")) fd := by
  obtain ⟨h, a, b, c⟩ := T.kin
  exact c.def_ 4 (d := d_Heap_add) rfl
theorem Tx.D_Heap_sub (T : Tx w K mg) : ∃ fd, FunD K "__sub__" "Heap.__sub__" (defArgs s_Heap_sub) (defBody s_Heap_sub) (defScope s_Heap_sub) [] [] (He.fAd K ("Heap", some "__sub__")) fd := by
  obtain ⟨h, a, b, c⟩ := T.kin
  exact c.def_ 5 (d := d_Heap_sub) rfl
theorem Tx.D_Heap_value (T : Tx w K mg) : ∃ fd, FunD K "value" "Heap.value" (defArgs s_Heap_value) (defBody s_Heap_value) (defScope s_Heap_value) [] [] (He.fAd K ("Heap", some "value")) fd := by
  obtain ⟨h, a, b, c⟩ := T.kin
  exact c.def_ 6 (d := d_Heap_value) rfl
theorem Tx.D_Heap_cell (T : Tx w K mg) : ∃ fd, FunD K "cell" "Heap.cell" (defArgs s_Heap_cell) (defBody s_Heap_cell) (defScope s_Heap_cell) [] [] (He.fAd K ("Heap", some "cell")) fd := by
  obtain ⟨h, a, b, c⟩ := T.kin
  exact c.def_ 7 (d := d_Heap_cell) rfl
theorem Tx.D_Heap_with_name (T : Tx w K mg) : ∃ fd, FunD K "with_name" "Heap.with_name" (defArgs s_Heap_with_name) (defBody s_Heap_with_name) (defScope s_Heap_with_name) [] [] (He.fAd K ("Heap", some "with_name")) fd := by
  obtain ⟨h, a, b, c⟩ := T.kin
  exact c.def_ 8 (d := d_Heap_with_name) rfl
theorem Tx.D_Heap_without_name (T : Tx w K mg) : ∃ fd, FunD K "without_name" "Heap.without_name" (defArgs s_Heap_without_name) (defBody s_Heap_without_name) (defScope s_Heap_without_name) [] [] (He.fAd K ("Heap", some "without_name")) fd := by
  obtain ⟨h, a, b, c⟩ := T.kin
  exact c.def_ 9 (d := d_Heap_without_name) rfl
theorem Tx.D_heap_names (T : Tx w K mg) : ∃ fd, FunD K "heap_names" "heap_names" (defArgs s_heap_names) (defBody s_heap_names) (defScope s_heap_names) [] [] (He.fAd K ("heap_names", none)) fd := by
  obtain ⟨h, a, b, c⟩ := T.kin
  exact c.def_ 10 (d := d_heap_names) rfl
theorem Tx.D_heap_cells (T : Tx w K mg) : ∃ fd, FunD K "heap_cells" "heap_cells" (defArgs s_heap_cells) (defBody s_heap_cells) (defScope s_heap_cells) [] [] (He.fAd K ("heap_cells", none)) fd := by
  obtain ⟨h, a, b, c⟩ := T.kin
  exact c.def_ 11 (d := d_heap_cells) rfl
theorem Tx.D_heap_from (T : Tx w K mg) : ∃ fd, FunD K "heap_from" "heap_from" (defArgs s_heap_from) (defBody s_heap_from) (defScope s_heap_from) [] [] (He.fAd K ("heap_from", none)) fd := by
  obtain ⟨h, a, b, c⟩ := T.kin
  exact c.def_ 12 (d := d_heap_from) rfl
theorem Tx.D_number_occurs (T : Tx w K mg) : ∃ fd, FunD K "number_occurs" "number_occurs" (defArgs s_number_occurs) (defBody s_number_occurs) (defScope s_number_occurs) [] [] (He.fAd K ("number_occurs", none)) fd := by
  obtain ⟨h, a, b, c⟩ := T.kin
  exact c.def_ 13 (d := d_number_occurs) rfl
theorem Tx.D_address_outside (T : Tx w K mg) : ∃ fd, FunD K "address_outside" "address_outside" (defArgs s_address_outside) (defBody s_address_outside) (defScope s_address_outside) [] [] (He.fAd K ("address_outside", none)) fd := by
  obtain ⟨h, a, b, c⟩ := T.kin
  exact c.def_ 14 (d := d_address_outside) rfl
theorem Tx.D_heap_of_both (T : Tx w K mg) : ∃ fd, FunD K "heap_of_both" "heap_of_both" (defArgs s_heap_of_both) (defBody s_heap_of_both) (defScope s_heap_of_both) [] [] (He.fAd K ("heap_of_both", none)) fd := by
  obtain ⟨h, a, b, c⟩ := T.kin
  exact c.def_ 15 (d := d_heap_of_both) rfl
theorem Tx.D_arrival (T : Tx w K mg) : ∃ fd, FunD K "arrival" "arrival" (defArgs s_arrival) (defBody s_arrival) (defScope s_arrival) [] [] (He.fAd K ("arrival", none)) fd := by
  obtain ⟨h, a, b, c⟩ := T.kin
  exact c.def_ 16 (d := d_arrival) rfl
theorem Tx.D_lost_cells (T : Tx w K mg) : ∃ fd, FunD K "lost_cells" "lost_cells" (defArgs s_lost_cells) (defBody s_lost_cells) (defScope s_lost_cells) [] [] (He.fAd K ("lost_cells", none)) fd := by
  obtain ⟨h, a, b, c⟩ := T.kin
  exact c.def_ 17 (d := d_lost_cells) rfl
theorem Tx.D_l_pool (T : Tx w K mg) : ∃ fd, FunD K "_law_pool" "_law_pool" (defArgs s_l_pool) (defBody s_l_pool) (defScope s_l_pool) [] [] (He.fAd K ("_law_pool", none)) fd := by
  obtain ⟨h, a, b, c⟩ := T.kin
  exact c.def_ 18 (d := d_l_pool) rfl
theorem Tx.D_l_draw (T : Tx w K mg) : ∃ fd, FunD K "_law_draw" "_law_draw" (defArgs s_l_draw) (defBody s_l_draw) (defScope s_l_draw) [] [] (He.fAd K ("_law_draw", none)) fd := by
  obtain ⟨h, a, b, c⟩ := T.kin
  exact c.def_ 19 (d := d_l_draw) rfl
theorem Tx.D_l_large (T : Tx w K mg) : ∃ fd, FunD K "_law_large" "_law_large" (defArgs s_l_large) (defBody s_l_large) (defScope s_l_large) [] [] (He.fAd K ("_law_large", none)) fd := by
  obtain ⟨h, a, b, c⟩ := T.kin
  exact c.def_ 20 (d := d_l_large) rfl
theorem Tx.D_l_sort (T : Tx w K mg) : ∃ fd, FunD K "_law_sort" "_law_sort" (defArgs s_l_sort) (defBody s_l_sort) (defScope s_l_sort) [] [] (He.fAd K ("_law_sort", none)) fd := by
  obtain ⟨h, a, b, c⟩ := T.kin
  exact c.def_ 21 (d := d_l_sort) rfl
theorem Tx.D_l_same (T : Tx w K mg) : ∃ fd, FunD K "_law_same" "_law_same" (defArgs s_l_same) (defBody s_l_same) (defScope s_l_same) [] [] (He.fAd K ("_law_same", none)) fd := by
  obtain ⟨h, a, b, c⟩ := T.kin
  exact c.def_ 22 (d := d_l_same) rfl
theorem Tx.D_l_names (T : Tx w K mg) : ∃ fd, FunD K "_law_names" "_law_names" (defArgs s_l_names) (defBody s_l_names) (defScope s_l_names) [] [] (He.fAd K ("_law_names", none)) fd := by
  obtain ⟨h, a, b, c⟩ := T.kin
  exact c.def_ 23 (d := d_l_names) rfl
theorem Tx.D_l_places (T : Tx w K mg) : ∃ fd, FunD K "_law_places" "_law_places" (defArgs s_l_places) (defBody s_l_places) (defScope s_l_places) [] [] (He.fAd K ("_law_places", none)) fd := by
  obtain ⟨h, a, b, c⟩ := T.kin
  exact c.def_ 24 (d := d_l_places) rfl
theorem Tx.D_l_due (T : Tx w K mg) : ∃ fd, FunD K "_law_due" "_law_due" (defArgs s_l_due) (defBody s_l_due) (defScope s_l_due) [] [] (He.fAd K ("_law_due", none)) fd := by
  obtain ⟨h, a, b, c⟩ := T.kin
  exact c.def_ 25 (d := d_l_due) rfl
theorem Tx.D_l_heap (T : Tx w K mg) : ∃ fd, FunD K "_law_heap" "_law_heap" (defArgs s_l_heap) (defBody s_l_heap) (defScope s_l_heap) [] [] (He.fAd K ("_law_heap", none)) fd := by
  obtain ⟨h, a, b, c⟩ := T.kin
  exact c.def_ 26 (d := d_l_heap) rfl
theorem Tx.D_l_drawn (T : Tx w K mg) : ∃ fd, FunD K "_law_drawn" "_law_drawn" (defArgs s_l_drawn) (defBody s_l_drawn) (defScope s_l_drawn) [] [] (He.fAd K ("_law_drawn", none)) fd := by
  obtain ⟨h, a, b, c⟩ := T.kin
  exact c.def_ 27 (d := d_l_drawn) rfl
theorem Tx.D_l_made (T : Tx w K mg) : ∃ fd, FunD K "_law_made" "_law_made" (defArgs s_l_made) (defBody s_l_made) (defScope s_l_made) [] [] (He.fAd K ("_law_made", none)) fd := by
  obtain ⟨h, a, b, c⟩ := T.kin
  exact c.def_ 28 (d := d_l_made) rfl
theorem Tx.D_l_walk (T : Tx w K mg) : ∃ fd, FunD K "_law_walk" "_law_walk" (defArgs s_l_walk) (defBody s_l_walk) (defScope s_l_walk) [] [] (He.fAd K ("_law_walk", none)) fd := by
  obtain ⟨h, a, b, c⟩ := T.kin
  exact c.def_ 29 (d := d_l_walk) rfl
theorem Tx.D_l_lost (T : Tx w K mg) : ∃ fd, FunD K "_law_lost" "_law_lost" (defArgs s_l_lost) (defBody s_l_lost) (defScope s_l_lost) [] [] (He.fAd K ("_law_lost", none)) fd := by
  obtain ⟨h, a, b, c⟩ := T.kin
  exact c.def_ 30 (d := d_l_lost) rfl
theorem Tx.D_l_right (T : Tx w K mg) : ∃ fd, FunD K "_law_right" "_law_right" (defArgs s_l_right) (defBody s_l_right) (defScope s_l_right) [] [] (He.fAd K ("_law_right", none)) fd := by
  obtain ⟨h, a, b, c⟩ := T.kin
  exact c.def_ 31 (d := d_l_right) rfl
theorem Tx.D_l_with (T : Tx w K mg) : ∃ fd, FunD K "_law_with" "_law_with" (defArgs s_l_with) (defBody s_l_with) (defScope s_l_with) [] [] (He.fAd K ("_law_with", none)) fd := by
  obtain ⟨h, a, b, c⟩ := T.kin
  exact c.def_ 32 (d := d_l_with) rfl
theorem Tx.D_l_refused (T : Tx w K mg) : ∃ fd, FunD K "_law_refused" "_law_refused" (defArgs s_l_refused) (defBody s_l_refused) (defScope s_l_refused) [] [] (He.fAd K ("_law_refused", none)) fd := by
  obtain ⟨h, a, b, c⟩ := T.kin
  exact c.def_ 33 (d := d_l_refused) rfl
theorem Tx.D_l_refuses (T : Tx w K mg) : ∃ fd, FunD K "_law_refuses" "_law_refuses" (defArgs s_l_refuses) (defBody s_l_refuses) (defScope s_l_refuses) [] [] (He.fAd K ("_law_refuses", none)) fd := by
  obtain ⟨h, a, b, c⟩ := T.kin
  exact c.def_ 34 (d := d_l_refuses) rfl
theorem Tx.D_law (T : Tx w K mg) : ∃ fd, FunD K "law" "law" (defArgs s_law) (defBody s_law) (defScope s_law) [] [] (He.fAd K ("law", none)) fd := by
  obtain ⟨h, a, b, c⟩ := T.kin
  exact c.def_ 35 (d := d_law) rfl
theorem Tx.t_NOT_NAMES (T : Tx w K mg) (H : Hp) : SqT K H (He.ga K "NOT_NAMES") (([.str "nil", .str "some", .str "or", .str "any", .str "cell", .str "row", .str "proc", .str "if", .str "else", .str "end", .str "free", .str "new", .str "link", .str "mark", .str "drop"] : List He.Dv).map (He.Dv.v K)) := by
  obtain ⟨h, a, b, c⟩ := T.ex
  exact He.tupB_ok (He.ba c.more).1 H
theorem Tx.t_MARKS_OF_CELLS (T : Tx w K mg) (H : Hp) : SqT K H (He.ga K "MARKS_OF_CELLS") (([.str "a", .str "b", .str "c"] : List He.Dv).map (He.Dv.v K)) := by
  obtain ⟨h, a, b, c⟩ := T.ex
  exact He.tupB_ok (He.ba c.more).2 H
theorem sc_has_letters_only : FnScope ["text", "most", "letter"] ["text", "most"] (defScope s_has_letters_only) := ⟨rfl, rfl, rfl, by decide +kernel, rfl, by decide +kernel, by decide +kernel⟩
theorem sc_is_name : FnScope ["text"] ["text"] (defScope s_is_name) := ⟨rfl, rfl, rfl, by decide +kernel, rfl, by decide +kernel, by decide +kernel⟩
theorem sc_Heap_init : FnScope ["self", "names", "cells", "cell"] ["self", "names", "cells"] (defScope s_Heap_init) := ⟨rfl, rfl, rfl, by decide +kernel, rfl, by decide +kernel, by decide +kernel⟩
theorem sc_Heap_eq : FnScope ["self", "other"] ["self", "other"] (defScope s_Heap_eq) := ⟨rfl, rfl, rfl, by decide +kernel, rfl, by decide +kernel, by decide +kernel⟩
theorem sc_Heap_add : FnScope ["self", "other"] ["self", "other"] (defScope s_Heap_add) := ⟨rfl, rfl, rfl, by decide +kernel, rfl, by decide +kernel, by decide +kernel⟩
theorem sc_Heap_sub : FnScope ["self", "other", "outside", "cells", "address", "mark", "link", "share", "taken", "left"] ["self", "other"] (defScope s_Heap_sub) := ⟨rfl, rfl, rfl, by decide +kernel, rfl, by decide +kernel, by decide +kernel⟩
theorem sc_Heap_size : FnScope ["self"] ["self"] (defScope s_Heap_size) := ⟨rfl, rfl, rfl, by decide +kernel, rfl, by decide +kernel, by decide +kernel⟩
theorem sc_Heap_value : FnScope ["self", "name", "known", "number"] ["self", "name"] (defScope s_Heap_value) := ⟨rfl, rfl, rfl, by decide +kernel, rfl, by decide +kernel, by decide +kernel⟩
theorem sc_Heap_cell : FnScope ["self", "address"] ["self", "address"] (defScope s_Heap_cell) := ⟨rfl, rfl, rfl, by decide +kernel, rfl, by decide +kernel, by decide +kernel⟩
theorem sc_Heap_with_name : FnScope ["self", "name", "number", "others", "pair"] ["self", "name", "number"] (defScope s_Heap_with_name) := ⟨rfl, rfl, rfl, by decide +kernel, rfl, by decide +kernel, by decide +kernel⟩
theorem sc_Heap_without_name : FnScope ["self", "name", "others", "pair"] ["self", "name"] (defScope s_Heap_without_name) := ⟨rfl, rfl, rfl, by decide +kernel, rfl, by decide +kernel, by decide +kernel⟩
theorem sc_heap_names : FnScope ["names", "known", "at", "name", "number"] ["names"] (defScope s_heap_names) := ⟨rfl, rfl, rfl, by decide +kernel, rfl, by decide +kernel, by decide +kernel⟩
theorem sc_heap_cells : FnScope ["cells", "known", "at", "address", "mark", "link", "share"] ["cells"] (defScope s_heap_cells) := ⟨rfl, rfl, rfl, by decide +kernel, rfl, by decide +kernel, by decide +kernel⟩
theorem sc_heap_from : FnScope ["names", "cells", "heap", "cell"] ["names", "cells"] (defScope s_heap_from) := ⟨rfl, rfl, rfl, by decide +kernel, rfl, by decide +kernel, by decide +kernel⟩
theorem sc_number_occurs : FnScope ["heap", "number", "pair", "cell"] ["heap", "number"] (defScope s_number_occurs) := ⟨rfl, rfl, rfl, by decide +kernel, rfl, by decide +kernel, by decide +kernel⟩
theorem sc_address_outside : FnScope ["part", "heap", "address", "mark", "link", "share", "row"] ["part", "heap"] (defScope s_address_outside) := ⟨rfl, rfl, rfl, by decide +kernel, rfl, by decide +kernel, by decide +kernel⟩
theorem sc_heap_of_both : FnScope ["heap", "other", "adding", "more", "cell", "cells", "address", "first", "second", "mark", "link", "share"] ["heap", "other", "adding"] (defScope s_heap_of_both) := ⟨rfl, rfl, rfl, by decide +kernel, rfl, by decide +kernel, by decide +kernel⟩
theorem sc_arrival : FnScope ["heap", "start", "goal", "passed", "at", "cell"] ["heap", "start", "goal"] (defScope s_arrival) := ⟨rfl, rfl, rfl, by decide +kernel, rfl, by decide +kernel, by decide +kernel⟩
theorem sc_lost_cells : FnScope ["heap", "reached", "pair", "at", "cell"] ["heap"] (defScope s_lost_cells) := ⟨rfl, rfl, rfl, by decide +kernel, rfl, by decide +kernel, by decide +kernel⟩
theorem sc_l_pool : FnScope ["script", "pool", "cell", "size", "k"] ["script"] (defScope s_l_pool) := ⟨rfl, rfl, rfl, by decide +kernel, rfl, by decide +kernel, by decide +kernel⟩
theorem sc_l_draw : FnScope ["pool", "many"] ["pool", "many"] (defScope s_l_draw) := ⟨rfl, rfl, rfl, by decide +kernel, rfl, by decide +kernel, by decide +kernel⟩
theorem sc_l_large : FnScope ["pool", "many", "low"] ["pool", "many"] (defScope s_l_large) := ⟨rfl, rfl, rfl, by decide +kernel, rfl, by decide +kernel, by decide +kernel⟩
theorem sc_l_sort : FnScope ["thing"] ["thing"] (defScope s_l_sort) := ⟨rfl, rfl, rfl, by decide +kernel, rfl, by decide +kernel, by decide +kernel⟩
theorem sc_l_same : FnScope ["told", "due", "pairs", "k", "one", "two", "kind", "x", "y"] ["told", "due"] (defScope s_l_same) := ⟨rfl, rfl, rfl, by decide +kernel, rfl, by decide +kernel, by decide +kernel⟩
theorem sc_l_names : FnScope ["pool", "many", "names", "letters", "words", "k", "name", "low", "j"] ["pool", "many"] (defScope s_l_names) := ⟨rfl, rfl, rfl, by decide +kernel, rfl, by decide +kernel, by decide +kernel⟩
theorem sc_l_places : FnScope ["pool", "many", "places", "k", "place", "turn"] ["pool", "many"] (defScope s_l_places) := ⟨rfl, rfl, rfl, by decide +kernel, rfl, by decide +kernel, by decide +kernel⟩
theorem sc_l_due : FnScope ["names", "cells", "rows", "place", "mark", "link", "share"] ["names", "cells"] (defScope s_l_due) := ⟨rfl, rfl, rfl, by decide +kernel, rfl, by decide +kernel, by decide +kernel⟩
theorem sc_l_heap : FnScope ["told", "names", "cells", "fields"] ["told", "names", "cells"] (defScope s_l_heap) := ⟨rfl, rfl, rfl, by decide +kernel, rfl, by decide +kernel, by decide +kernel⟩
theorem sc_l_drawn : FnScope ["pool", "size", "many", "rows", "k", "low", "link", "share", "values", "words", "places", "names", "cells", "mark"] ["pool"] (defScope s_l_drawn) := ⟨rfl, rfl, rfl, by decide +kernel, rfl, by decide +kernel, by decide +kernel⟩
theorem sc_l_made : FnScope ["names", "cells", "turned", "pairs", "rows", "name", "place", "mark", "link", "share", "heap"] ["names", "cells", "turned"] (defScope s_l_made) := ⟨rfl, rfl, rfl, by decide +kernel, rfl, by decide +kernel, by decide +kernel⟩
theorem sc_l_walk : FnScope ["cells", "start", "goal", "path", "place", "turn"] ["cells", "start", "goal"] (defScope s_l_walk) := ⟨rfl, rfl, rfl, by decide +kernel, rfl, by decide +kernel, by decide +kernel⟩
theorem sc_l_lost : FnScope ["names", "cells", "met", "name", "place", "turn"] ["names", "cells"] (defScope s_l_lost) := ⟨rfl, rfl, rfl, by decide +kernel, rfl, by decide +kernel, by decide +kernel⟩
theorem sc_l_right : FnScope ["heap", "names", "cells", "places", "goals", "starts", "name", "place", "due", "start", "goal", "told", "odd"] ["heap", "names", "cells", "places"] (defScope s_l_right) := ⟨rfl, rfl, rfl, by decide +kernel, rfl, by decide +kernel, by decide +kernel⟩
theorem sc_l_with : FnScope ["pool", "heap", "names", "cells", "places", "turn", "fresh", "name", "pick", "value", "more", "new", "back", "there"] ["pool", "heap", "names", "cells", "places", "turn"] (defScope s_l_with) := ⟨rfl, rfl, rfl, by decide +kernel, rfl, by decide +kernel, by decide +kernel⟩
theorem sc_l_refused : FnScope ["e", "kind", "due", "flags"] ["e", "kind", "due"] (defScope s_l_refused) := ⟨rfl, rfl, rfl, by decide +kernel, rfl, by decide +kernel, by decide +kernel⟩
theorem sc_l_refuses : FnScope ["heap", "kind", "name", "value", "due", "turn", "right", "e"] ["heap", "kind", "name", "value"] (defScope s_l_refuses) := ⟨rfl, rfl, rfl, by decide +kernel, rfl, by decide +kernel, by decide +kernel⟩
theorem sc_law : FnScope ["script", "pool", "names", "cells", "places", "heap", "turn", "words", "bad", "value", "absent", "rows", "kind", "name", "odd"] ["script"] (defScope s_law) := ⟨rfl, rfl, rfl, by decide +kernel, rfl, by decide +kernel, by decide +kernel⟩
end
end Lw
end

section
open PySem PySem.Spec PyProof.Rows L2 L3 PySem.W
local macro_rules | `(tactic| walk_at "hx") => `(tactic| first
  | assumption
  | (refine Ex.get (by assumption) ?_; walk_at "hx"))
local macro_rules | `(tactic| walk_at "sq") => `(tactic| first
  | assumption
  | (refine Or.inl (Or.inl ?_); walk_at "hx")
  | (refine Ex.sqL (by assumption) ?_; walk_at "sq")
  | (refine Ex.sqT (by assumption) ?_; walk_at "sq"))
local macro_rules | `(tactic| walk_at "at") => `(tactic| first | exact atI_zero | rfl | exact atI_of (by omega) (by assumption))
local macro_rules | `(tactic| walk_at "sz") => `(tactic| first | assumption | (simp only [List.length_cons, List.length_nil, List.length_append, List.length_map]; first | done | decide | (rw [sizeLine_eq]; omega)) | (rw [sizeLine_eq]; omega))
local macro_rules | `(tactic| walk_at "s1") => `(tactic| first
  | with_reducible refine' k_seq ?_
  | with_reducible refine' k_asg ?_
  | with_reducible refine' k_nx ?_
  | with_reducible refine' k_ret ?_
  | with_reducible refine' k_retN ?_
  | with_reducible refine' k_if ?_
  | with_reducible refine' k_ifE ?_
  | with_reducible refine' k_test ?_
  | with_reducible refine' k_tb ?_
  | with_reducible refine' k_and ?_
  | with_reducible refine' k_or ?_
  | with_reducible refine' k_not ?_
  | with_reducible refine' k_chain ?_
  | with_reducible refine' k_iStr ?_
  | with_reducible refine' k_iStrE ?_
  | with_reducible refine' k_andV ?_
  | with_reducible refine' k_orV ?_
  | with_reducible refine' k_notV ?_
  | with_reducible refine' k_isN ?_
  | with_reducible refine' k_notN ?_
  | with_reducible refine' k_op ?_
  | with_reducible refine' k_un ?_
  | ((with_reducible refine' k_var ?hvar ?_); (case hvar => rfl))
  | with_reducible refine' k_c ?_
  | with_reducible refine' k_cb ?_
  | with_reducible refine' k_cons ?_
  | with_reducible refine' k_nil ?_
  | with_reducible refine' k_call ?_
  | with_reducible refine' k_tup ?_
  | with_reducible refine' k_lst ?_
  | with_reducible refine' k_drop ?_
  | with_reducible refine' k_bm ?_
  | with_reducible refine' k_bm0 ?_
  | with_reducible refine' k_name ?_
  | with_reducible refine' k_gsub ?_
  | with_reducible refine' k_gCons ?_
  | with_reducible refine' k_gNil ?_
  | with_reducible refine' k_par ?_
  | with_reducible refine' k_parE ?_
  | with_reducible refine' k_fld ?_
  | with_reducible refine' k_slice ?_
  | with_reducible refine' k_noPart ?_
  | with_reducible refine' k_part ?_
  | with_reducible refine' k_partE ?_
  | with_reducible refine' k_for ?_
  | with_reducible refine' k_rng1 ?_
  | with_reducible refine' k_iList ?_
  | with_reducible refine' k_iTup ?_
  | with_reducible refine' k_zip ?_
  | with_reducible refine' k_lc ?_
  | with_reducible refine' k_yes ?_
  | with_reducible refine' iteT ?_
  | with_reducible refine' iteF ?_
  | with_reducible refine' iteNT ?_
  | with_reducible refine' iteNF ?_
  | with_reducible refine' iteOn ?_
  | with_reducible refine' iteOs ?_
  | with_reducible refine' iteNOn ?_
  | with_reducible refine' iteNOs ?_
  | with_reducible refine' k_enumA ?_
  | with_reducible refine' k_meth ?_
  | with_reducible refine' k_make ?_
  | with_reducible refine' k_dc ?_
  | with_reducible refine' k_sfld ?_
  | with_reducible refine' k_dput ?_
  | with_reducible refine' k_dget ?_
  | with_reducible refine' k_dget1 ?_
  | with_reducible refine' k_din ?_
  | with_reducible refine' k_dnotin ?_
  | with_reducible refine' k_dpop1 ?_)
local macro_rules | `(tactic| walk_at "s2") => `(tactic| first
  | with_reducible refine' k_int ?_
  | with_reducible refine' k_intB ?_
  | with_reducible refine' k_add ?_
  | with_reducible refine' k_sub ?_
  | with_reducible refine' k_lt ?_
  | with_reducible refine' k_le ?_
  | with_reducible refine' k_gt ?_
  | with_reducible refine' k_ge ?_
  | with_reducible refine' k_u ?_
  | with_reducible refine' k_max2 ?_
  | with_reducible refine' k_min2 ?_
  | with_reducible refine' k_abs ?_
  | with_reducible refine' k_inS ?_
  | ((with_reducible refine' k_mod ?hcond ?_); (case hcond => first | assumption | decide | omega))
  | ((with_reducible refine' k_mul ?hcond ?_); (case hcond => first | assumption | (left; decide) | (right; decide) | (left; omega) | (right; omega)))
  | ((with_reducible refine' k_div ?hcond ?_); (case hcond => first | assumption | decide))
  | ((with_reducible refine' k_pow ?hcond ?_); (case hcond => first | assumption | decide))
  | ((with_reducible refine' k_eq ?hcond ?_); (case hcond => rfl))
  | ((with_reducible refine' k_ne ?hcond ?_); (case hcond => rfl))
  | with_reducible refine' k_bl ?_
  | ((with_reducible refine' k_ixL ?hseq ?hat ?_); (case hseq => walk_at "sq"); (case hat => walk_at "at"))
  | ((with_reducible refine' k_ixT ?hseq ?hat ?_); (case hseq => walk_at "sq"); (case hat => walk_at "at"))
  | ((with_reducible refine' k_len ?hseq ?_); (case hseq => first | (refine Or.inl ?_; walk_at "sq") | (refine Or.inr ?_; walk_at "sq")))
  | ((with_reducible refine' k_rng1E ?hlo ?hhi ?_); (case hlo => first | decide | omega); (case hhi => first | decide | omega))
  | ((with_reducible refine' k_iListE ?hseq ?_); (case hseq => walk_at "sq"))
  | ((with_reducible refine' k_iTupE ?hseq ?_); (case hseq => walk_at "sq"))
  | ((with_reducible refine' k_lenS ?hsz ?_); (case hsz => walk_at "sz"))
  | ((with_reducible refine' k_lenD ?hseq ?_); (case hseq => walk_at "hx"))
  | ((with_reducible refine' k_tyA ?hseq ?_); (case hseq => walk_at "sq"))
  | ((with_reducible refine' k_append ?hseq ?hsz ?_); (case hseq => walk_at "hx"); (case hsz => walk_at "sz"))
  | ((with_reducible refine' k_gTup ?hseq ?hsz ?_); (case hseq => walk_at "sq"); (case hsz => rfl))
  | ((with_reducible refine' k_new ?hsz ?_); (case hsz => walk_at "sz")))
local macro_rules | `(tactic| walk_at "st") => `(tactic| first | walk_at "s1" | walk_at "s2")

namespace Lw
/-- the pool: a counter, digits -/
def PoolO (o : HO) : Prop := ∃ (c : Int) (ds : List Int), o = .lst ((c :: ds).map V.int) ∧ 0 ≤ c ∧ ds.length ≤ 1000 ∧ ∀ d ∈ ds, 0 ≤ d ∧ d < 60
def Pool (H : Hp) (a : Addr) : Prop := ∃ o, H a = some o ∧ PoolO o
def spDraw : Sp := fun vs H Q _ => ∃ (a : Addr) (m : Int), vs = [.ref a, .int m] ∧ Pool H a ∧ 0 < m ∧ ∀ r H1, 0 ≤ r → r < m → Pool H1 a → ExB a H H1 → Q (.int r) H1
section
variable {P : Program} {w : World} {K : PySem.W.Frag} {mg : Str → Option Value} {base : Heap}
theorem c_l_draw (T : Tx w K mg) : Cal P w K mg base CX0 1 "_law_draw" ["pool", "many"] spDraw := by
  refine cal_mk T.D_l_draw T.m__law_draw sc_l_draw (fun _ _ _ _ _ _ us hl => match us, hl with | [_, _], _ => rfl) (fun vs H Q E h => ?_) (fun f cdv A outer s H vs Q E hr h => ?_)
  · obtain ⟨a, m, rfl, _⟩ := h
    rfl
  · obtain ⟨a, m, rfl, ⟨o, ho, c, ds, rfl, hc, hl, hd⟩, hm, k⟩ := h
    refine ⟨_, (pss_cons (ps_asg (pe_op o_add (pe_ix ix_list (pv 0) pe_int (fun _ _ => rfl)) pe_int) (pg_sub (pv 0) pe_int set_list))
  (pss_cons (ps_if (pt_cmpR o_lt (pe_ix ix_list (pv 0) pe_int (fun _ _ => rfl)) (pe_callB cr_len rfl T.f_len (by decide +kernel) (pa_cons (pv 0) pa_nil)) (nomark _)) (pss_one (ps_ret (pe_op o_mod (pe_callTy cr_int rfl T.f_int (by decide +kernel) (pa_cons (pe_ix ix_list (pv 0) (pe_ix ix_list (pv 0) pe_int (fun _ _ => rfl)) (fun _ _ => rfl)) pa_nil)) (pv 1)))) pss_nil)
  (pss_one (ps_ret pe_int)))), ?_⟩
    dsimp only [cxOf, Cx.nox]
    repeat walk_at "st"
    refine k_setL ho (ixN_zero (by simp)) ?_
    have h1 : upd H a (.lst (List.set ((c :: ds).map V.int) 0 (V.int (c + 1)))) a = some (.lst (((c + 1) :: ds).map V.int)) := upd_same
    have b1 : ExB a H (upd H a (.lst (List.set ((c :: ds).map V.int) 0 (V.int (c + 1))))) := ExB.upd
    generalize upd H a (.lst (List.set ((c :: ds).map V.int) 0 (V.int (c + 1)))) = H1 at h1 b1
    repeat walk_at "st"
    have po : Pool H1 a := ⟨_, h1, c + 1, ds, rfl, by omega, hl, hd⟩
    split
    · rename_i hlt
      have hlt := of_decide_eq_true hlt
      repeat walk_at "st"
      have hn : (c + 1).toNat < ((c + 1) :: ds).length := by
        rw [List.length_map] at hlt
        omega
      refine k_ixL (Or.inl (Or.inl h1)) (atI_of (v := V.int (((c + 1) :: ds)[(c + 1).toNat])) (by omega) (by rw [List.getElem?_map, List.getElem?_eq_getElem hn]; rfl)) ?_
      repeat walk_at "st"
      exact k _ _ (Int.emod_nonneg _ (by omega)) (Int.emod_lt_of_pos _ hm) po b1
    · refine k_nx ?_
      repeat walk_at "st"
      exact k _ _ (Int.le_refl 0) hm po b1
end


/-- which sort of thing: the number that _law_sort gives -/
inductive Sort1 (K : PySem.W.Frag) (H : Hp) : V → Int → Prop
  | bl (b : Bool) : Sort1 K H (.bl b) 1
  | int (i : Int) : Sort1 K H (.int i) 2
  | str (x : Str) : Sort1 K H (.str x) 3
  | tup {a : Addr} {xs : List V} (h : SqT K H a xs) : Sort1 K H (.ref a) 4
  | lst {a : Addr} {xs : List V} (h : SqL K H a xs) : Sort1 K H (.ref a) 5
  | non : Sort1 K H .non 0
def spSort (K : PySem.W.Frag) : Sp := fun vs H Q _ => ∃ x n, vs = [x] ∧ Sort1 K H x n ∧ Q (.int n) H
section
variable {P : Program} {w : World} {K : PySem.W.Frag} {mg : Str → Option Value} {base : Heap}
theorem c_l_sort (T : Tx w K mg) : Cal P w K mg base CX0 1 "_law_sort" ["thing"] (spSort K) := by
  refine cal_mk T.D_l_sort T.m__law_sort sc_l_sort (fun _ _ _ _ _ _ us hl => match us, hl with | [_], _ => rfl) (fun vs H Q E h => ?_) (fun f cdv A outer s H vs Q E hr h => ?_)
  · obtain ⟨x, n, rfl, _⟩ := h
    rfl
  · obtain ⟨x, n, rfl, hx, k⟩ := h
    refine ⟨_, (pss_cons (ps_if (pt_val (pe_callB call_isi rfl T.f_isinstance (by decide +kernel) (pa_cons (pv 0) (pa_cons (pe_ty (n := "bool") rfl T.f_bool (by decide +kernel)) pa_nil)))) (pss_one (ps_ret pe_int)) pss_nil)
  (pss_cons (ps_if (pt_val (pe_callB call_isi rfl T.f_isinstance (by decide +kernel) (pa_cons (pv 0) (pa_cons (pe_ty (n := "int") rfl T.f_int (by decide +kernel)) pa_nil)))) (pss_one (ps_ret pe_int)) pss_nil)
  (pss_cons (ps_if (pt_val (pe_callB call_isi rfl T.f_isinstance (by decide +kernel) (pa_cons (pv 0) (pa_cons (pe_ty (n := "str") rfl T.f_str (by decide +kernel)) pa_nil)))) (pss_one (ps_ret pe_int)) pss_nil)
  (pss_cons (ps_if (pt_val (pe_callB call_isi rfl T.f_isinstance (by decide +kernel) (pa_cons (pv 0) (pa_cons (pe_ty (n := "tuple") rfl T.f_tuple (by decide +kernel)) pa_nil)))) (pss_one (ps_ret pe_int)) pss_nil)
  (pss_cons (ps_if (pt_val (pe_callB call_isi rfl T.f_isinstance (by decide +kernel) (pa_cons (pv 0) (pa_cons (pe_ty (n := "list") rfl T.f_list (by decide +kernel)) pa_nil)))) (pss_one (ps_ret pe_int)) pss_nil)
  (pss_one (ps_ret (pe_ifExp (pt_cmp (pc_isN (pv 0))) pe_int pe_int)))))))), ?_⟩
    dsimp only [cxOf, Cx.nox]
    have step : ∀ {tn : String}, TyX K H x (.type tn) → True := fun _ => trivial
    cases hx with
    | bl b =>
      repeat walk_at "st"
      refine k_isi (.base (.bl b)) (b := true) (by decide +kernel) ?_
      repeat walk_at "st"
      exact k
    | int i =>
      repeat walk_at "st"
      refine k_isi (.base (.int i)) (b := false) (by decide +kernel) ?_
      repeat walk_at "st"
      refine k_isi (.base (.int i)) (b := true) (by decide +kernel) ?_
      repeat walk_at "st"
      exact k
    | str z =>
      repeat walk_at "st"
      refine k_isi (.base (.str z)) (b := false) (by decide +kernel) ?_
      repeat walk_at "st"
      refine k_isi (.base (.str z)) (b := false) (by decide +kernel) ?_
      repeat walk_at "st"
      refine k_isi (.base (.str z)) (b := true) (by decide +kernel) ?_
      repeat walk_at "st"
      exact k
    | @tup a xs hs =>
      have ty := tyX_T hs
      repeat walk_at "st"
      refine k_isi ty (b := false) (by decide +kernel) ?_
      repeat walk_at "st"
      refine k_isi ty (b := false) (by decide +kernel) ?_
      repeat walk_at "st"
      refine k_isi ty (b := false) (by decide +kernel) ?_
      repeat walk_at "st"
      refine k_isi ty (b := true) (by decide +kernel) ?_
      repeat walk_at "st"
      exact k
    | @lst a xs hs =>
      have ty := tyX_L hs
      repeat walk_at "st"
      refine k_isi ty (b := false) (by decide +kernel) ?_
      repeat walk_at "st"
      refine k_isi ty (b := false) (by decide +kernel) ?_
      repeat walk_at "st"
      refine k_isi ty (b := false) (by decide +kernel) ?_
      repeat walk_at "st"
      refine k_isi ty (b := false) (by decide +kernel) ?_
      repeat walk_at "st"
      refine k_isi ty (b := true) (by decide +kernel) ?_
      repeat walk_at "st"
      exact k
    | non =>
      have ty : TyX K H .non (.type "NoneType") := .base .non
      repeat walk_at "st"
      refine k_isi ty (b := false) (by decide +kernel) ?_
      repeat walk_at "st"
      refine k_isi ty (b := false) (by decide +kernel) ?_
      repeat walk_at "st"
      refine k_isi ty (b := false) (by decide +kernel) ?_
      repeat walk_at "st"
      refine k_isi ty (b := false) (by decide +kernel) ?_
      repeat walk_at "st"
      refine k_isi ty (b := false) (by decide +kernel) ?_
      repeat walk_at "st"
      exact k
end


theorem sort_of {K : PySem.W.Frag} {H : Hp} : ∀ {d : PyData} {x : V}, Dp K H x d → ∃ n : Int, Sort1 K H x n ∧ n ≠ 6 ∧ (∀ {y : V} {H' : Hp}, Dp K H' y d → Sort1 K H' y n) ∧ (n < 4 → ∀ {y : V} {H' : Hp}, Dp K H' y d → y = x ∧ scal x x = true) ∧ (4 ≤ n → (∃ ds, d = .list ds) ∨ ∃ ds, d = .tuple ds) := by
  intro d x h
  cases h with
  | non => exact ⟨0, .non, by decide, fun h => by cases h; exact .non, fun _ _ _ h => by cases h; exact ⟨rfl, rfl⟩, fun h => absurd h (by decide)⟩
  | bl b => exact ⟨1, .bl b, by decide, fun h => by cases h; exact .bl b, fun _ _ _ h => by cases h; exact ⟨rfl, rfl⟩, fun h => absurd h (by decide)⟩
  | int i => exact ⟨2, .int i, by decide, fun h => by cases h; exact .int i, fun _ _ _ h => by cases h; exact ⟨rfl, rfl⟩, fun h => absurd h (by decide)⟩
  | str z => exact ⟨3, .str z, by decide, fun h => by cases h; exact .str z, fun _ _ _ h => by cases h; exact ⟨rfl, rfl⟩, fun h => absurd h (by decide)⟩
  | lst hs ha => exact ⟨5, .lst hs, by decide, fun h => by cases h with | lst hs _ => exact .lst hs, fun h => absurd h (by decide), fun _ => .inl ⟨_, rfl⟩⟩
  | tup hs ha => exact ⟨4, .tup hs, by decide, fun h => by cases h with | tup hs _ => exact .tup hs, fun h => absurd h (by decide), fun _ => .inr ⟨_, rfl⟩⟩
/-- both read as the same data -/
def spSame (K : PySem.W.Frag) : Sp := fun vs H Q _ => ∃ x y d, vs = [x, y] ∧ Dp K H x d ∧ Dp K H y d ∧ wt d ≤ 9000 ∧ ∀ H', Ex H H' → Q (.bl true) H'
/-- a pair that waits -/
structure Wait where
  p : Addr
  x : V
  y : V
  d : PyData
def WaitOk (K : PySem.W.Frag) (H H' : Hp) (q : Wait) : Prop := H' q.p = some (.tup [q.x, q.y]) ∧ Dp K H q.x q.d ∧ Dp K H q.y q.d
def wsum (qs : List Wait) : Nat := wts (qs.map (·.d))
theorem wsum_app (a b : List Wait) : wsum (a ++ b) = wsum a + wsum b := by
  unfold wsum
  rw [List.map_append, wts_app]
theorem wsum_len (a : List Wait) : a.length ≤ wsum a := by
  have := wts_ge (a.map (·.d))
  rw [List.length_map] at this
  exact this
section
variable {P : Program} {w : World} {K : PySem.W.Frag} {mg : Str → Option Value} {base : Heap}
def SameI (K : PySem.W.Frag) (H : Hp) (told due : V) (l : Addr) (bound : Nat) (σ : L2.St) (H' : Hp) : Prop := ∃ (qs : List Wait) (v3 v4 v5 v6 v7 v8 : Option V), σ = [some told, some due, some (.ref l), v3, v4, v5, v6, v7, v8] ∧
  H l = none ∧ Ex H H' ∧ H' l = some (.lst (qs.map fun q => V.ref q.p)) ∧ (∀ q ∈ qs, WaitOk K H H' q) ∧ wsum qs ≤ bound
def SameZ (K : PySem.W.Frag) (H : Hp) (told due : V) (l : Addr) (init : List Wait) (ds : List PyData) (j : Nat) (v3 v4 v5 v6 : Option V) (σ : L2.St) (H' : Hp) : Prop := ∃ (qs : List Wait) (v7 v8 : Option V), σ = [some told, some due, some (.ref l), v3, v4, v5, v6, v7, v8] ∧
  Ex H H' ∧ H' l = some (.lst ((init ++ qs).map fun q => V.ref q.p)) ∧ (∀ q ∈ init ++ qs, WaitOk K H H' q) ∧ wsum qs = wts (ds.take j)
theorem c_l_same (T : Tx w K mg) : Cal P w K mg base CX0 2 "_law_same" ["told", "due"] (spSame K) := by
  refine cal_mk T.D_l_same T.m__law_same sc_l_same (fun _ _ _ _ _ _ us hl => match us, hl with | [_, _], _ => rfl) (fun vs H Q E h => ?_) (fun f cdv A outer s H vs Q E hr h => ?_)
  · obtain ⟨x, y, d, rfl, _⟩ := h
    rfl
  · obtain ⟨x, y, d, rfl, hx, hy, hd, k⟩ := h
    refine ⟨_, ((pss_cons (ps_set (i := 2) sc_l_same.nd rfl (Or.inl rfl) (pe_lst (pa_cons (pe_tup (pa_cons (pv 0) (pa_cons (pv 1) pa_nil))) pa_nil)))
  (pss_cons (ps_for PassesOwn.never rfl (pi_range1 rfl T.f_range (pa_cons pe_int pa_nil)) (pg_name (i := 3) sc_l_same.nd rfl (Or.inl rfl)) (pss_cons (ps_if (pt_cmpR op_eq (pe_callB cr_len rfl T.f_len (by decide +kernel) (pa_cons (pv 2) pa_nil)) pe_int (nomark _)) (pss_one (ps_ret pe_bl)) pss_nil)
  (pss_cons (ps_asg (pe_bm0 PySem.F.plainAttrs_list PySem.F.slot_list_pop PySem.F.type_list_pop mt_pop (pv 2)) (pg_tup (n := 2) rfl (pgs_cons (pg_name (i := 4) sc_l_same.nd rfl (Or.inl rfl)) (pgs_cons (pg_name (i := 5) sc_l_same.nd rfl (Or.inl rfl)) pgs_nil))))
  (pss_cons (ps_set (i := 6) sc_l_same.nd rfl (Or.inl rfl) (by exact pe_cal (c_l_sort T) hr (by decide) rfl pass0 (pa_cons (pv 5) pa_nil)))
  (pss_cons (ps_if (pw_or (pt_cmpR op_eq (pv 6) pe_int (nomark _)) (pw_or1 (pt_cmpR op_ne (by exact pe_cal (c_l_sort T) hr (by decide) rfl pass0 (pa_cons (pv 4) pa_nil)) (pv 6) (nomark _)))).pt (pss_one (ps_ret pe_bl)) pss_nil)
  (pss_one (ps_if (pt_cmpR o_ge (pv 6) pe_int (nomark _)) (pss_cons (ps_if (pt_cmpR op_ne (pe_callB cr_len rfl T.f_len (by decide +kernel) (pa_cons (pv 4) pa_nil)) (pe_callB cr_len rfl T.f_len (by decide +kernel) (pa_cons (pv 5) pa_nil)) (nomark _)) (pss_one (ps_ret pe_bl)) pss_nil)
  (pss_one (ps_for PassesOwn.never rfl (RZ.pi_zipA rfl T.f_zip (pa_cons (pv 4) (pa_cons (pv 5) pa_nil))) (pg_tup (n := 2) rfl (pgs_cons (pg_name (i := 7) sc_l_same.nd rfl (Or.inl rfl)) (pgs_cons (pg_name (i := 8) sc_l_same.nd rfl (Or.inl rfl)) pgs_nil))) (pss_one (ps_expr (pe_bm PySem.F.plainAttrs_list PySem.F.slot_list_append PySem.F.type_list_append mt_append (pv 2) (pa_cons (pe_tup (pa_cons (pv 7) (pa_cons (pv 8) pa_nil))) pa_nil))))))) (pss_one (ps_if (pt_cmpR op_ne (pv 4) (pv 5) (nomark _)) (pss_one (ps_ret pe_bl)) pss_nil)))))))))
  (pss_one (ps_ret pe_bl))))), ?_⟩
    dsimp only [cxOf, Cx.nox]
    repeat walk_at "st"
    intro p H1 hp e1 h1
    repeat walk_at "st"
    intro l H2 hl e2 h2
    repeat walk_at "st"
    have e02 : Ex H H2 := e1.trans e2
    refine for_range (lo := 0) (fun i σ' H' => SameI K H x y l (9000 - i) σ' H' ∧ i ≤ 9000) ?_ ?_ ?_
    · exact ⟨⟨[⟨p, x, y, d⟩], none, none, none, none, none, none, rfl, e1.none hl, e02, h2, fun q hq => by
        rw [List.mem_singleton.mp hq]
        exact ⟨e2.get h1, hx, hy⟩, by simpa [wsum, wts] using hd⟩, Nat.zero_le _⟩
    · rintro i σ' H' hi ⟨⟨qs, v3, v4, v5, v6, v7, v8, rfl, n0, e, hL, hq, hw⟩, hi9⟩
      repeat walk_at "st"
      split
      · repeat walk_at "st"
        exact k _ e
      · rename_i hne
        have hqs : qs ≠ [] := fun z => hne (by rw [z]; rfl)
        obtain ⟨init, q, rfl⟩ : ∃ init q, qs = init ++ [q] := ⟨qs.dropLast, qs.getLast hqs, (List.dropLast_concat_getLast hqs).symm⟩
        have hi1 : wsum (init ++ [q]) = wsum init + wt q.d := by
          rw [wsum_app]
          simp [wsum, wts]
        have hpos := wt_pos q.d
        have hlt : i + 1 ≤ 9000 := by
          have := wsum_len (init ++ [q])
          rw [List.length_append, List.length_singleton] at this
          omega
        obtain ⟨hqp, hqx, hqy⟩ := hq q (by simp)
        repeat walk_at "st"
        refine k_pop (v := .ref q.p) hL (by simp) ?_
        intro H3 b3 h3
        have nql : q.p ≠ l := ne_of hqp hL (by intro z; cases z)
        have hqp3 : H3 q.p = some (.tup [q.x, q.y]) := b3 _ _ nql hqp
        have e3 : Ex H H3 := ExB.old e n0 b3
        have hr3 : ∀ r ∈ init, WaitOk K H H3 r := fun r hr => by
          obtain ⟨a1, a2, a3⟩ := hq r (by simp [hr])
          exact ⟨b3 _ _ (ne_of a1 hL (by intro z; cases z)) a1, a2, a3⟩
        have h3' : H3 l = some (.lst (init.map fun q => V.ref q.p)) := by
          rw [h3]
          simp
        repeat walk_at "st"
        obtain ⟨n, s1, s6, sy, sf, sd⟩ := sort_of (Dp_ex e3 _ _ hqx)
        refine ⟨q.y, n, rfl, sy (Dp_ex e3 _ _ hqy), ?_⟩
        repeat walk_at "st"
        rw [show decide (V.int n = V.int 6) = false from decide_eq_false fun z => s6 (V.int.inj z)]
        refine iteF ?_
        repeat walk_at "st"
        refine ⟨q.x, n, rfl, s1, ?_⟩
        repeat walk_at "st"
        rw [decide_eq_true (rfl : V.int n = V.int n)]
        refine iteF ?_
        repeat walk_at "st"
        split
        · rename_i h4
          have h4 : (4 : Int) ≤ n := of_decide_eq_true h4
          -- the items' pairs wait
          have inner : ∀ (xs ys : List V) (ds : List PyData) (ax ay : Addr) (D : Ends), DpAll K H xs ds → DpAll K H ys ds → 1 + wts ds = wt q.d →
              ∀ (j : Nat) (x1 y1 : V) (T1 : Addr) (σ5 : L2.St) (H5 : Hp), xs[j]? = some x1 → ys[j]? = some y1 → SameZ K H x y l init ds j (some (.int (0 + (i : Int)))) (some q.x) (some q.y) (some (.int n)) σ5 H5 → H5 T1 = none →
              gTup K 2 (gCons (gName 7) (gCons (gName 8) gNil)) (.ref T1) σ5 (upd H5 T1 (.tup [x1, y1])) fun σ2 H2 =>
                tDrop (tBM K "list" rAppend (tVar 2) (tCons (tTup (tCons (tVar 7) (tCons (tVar 8) tNil))) tNil)) { D with nx := SameZ K H x y l init ds (j + 1) (some (.int (0 + (i : Int)))) (some q.x) (some q.y) (some (.int n)), ct := SameZ K H x y l init ds (j + 1) (some (.int (0 + (i : Int)))) (some q.x) (some q.y) (some (.int n)), bk := D.nx } σ2 H2 := by
            rintro xs ys ds ax ay D hxs hys hds j x1 y1 T1 σ5 H5 hj1 hj2 ⟨qs', v7, v8, rfl, e5, h5, hr5, hw5⟩ hT1
            obtain ⟨d1, hd1, dx1⟩ := L3.DpAll.get hxs hj1
            obtain ⟨d2, hd2, dy1⟩ := L3.DpAll.get hys hj2
            rw [hd1] at hd2
            cases hd2
            have eT : Ex H5 (upd H5 T1 (.tup [x1, y1])) := Ex.new hT1
            have hT : upd H5 T1 (.tup [x1, y1]) T1 = some (.tup [x1, y1]) := upd_same
            generalize upd H5 T1 (.tup [x1, y1]) = H6 at eT hT
            have hl5 : (init ++ qs').length ≤ 20000 := by
              have z1 := wsum_len (init ++ qs')
              rw [wsum_app, hw5] at z1
              have z2 : wts (ds.take j) ≤ wts ds := by
                have z3 := wts_app (ds.take j) (ds.drop j)
                rw [List.take_append_drop] at z3
                omega
              omega
            rw [List.length_append] at hl5
            have h6 := eT.get h5
            have n0' := n0
            refine k_gTup (Or.inl (Or.inl hT)) rfl ?_
            repeat walk_at "st"
            intro p7 H7 hp7 e7 h7
            have h67 := e7.get h6
            repeat walk_at "st"
            intro H8 b8 h8
            repeat walk_at "st"
            refine ⟨qs' ++ [⟨p7, x1, y1, d1⟩], _, _, rfl, ExB.old ((e5.trans eT).trans e7) n0 b8, ?_, ?_, ?_⟩
            · rw [h8]
              simp
            · intro r hr
              rw [← List.append_assoc] at hr
              rcases List.mem_append.mp hr with hr | hr
              · obtain ⟨a1, a2, a3⟩ := hr5 r hr
                exact ⟨b8 _ _ (ne_of a1 h5 (by intro z; cases z)) (e7.get (eT.get a1)), a2, a3⟩
              · rw [List.mem_singleton.mp hr]
                exact ⟨b8 _ _ (ne_of h7 h67 (by intro z; cases z)) h7, dx1, dy1⟩
            · rw [wsum_app, hw5, List.take_succ, hd1, wts_app]
              simp [wsum, wts]
          have fin : ∀ (ds : List PyData), 1 + wts ds = wt q.d → ∀ (σ5 : L2.St) (H5 : Hp), SameZ K H x y l init ds ds.length (some (.int (0 + (i : Int)))) (some q.x) (some q.y) (some (.int n)) σ5 H5 → SameI K H x y l (9000 - (i + 1)) σ5 H5 ∧ i + 1 ≤ 9000 := by
            rintro ds hds σ5 H5 ⟨qs', v7, v8, rfl, e5, h5, hr5, hw5⟩
            refine ⟨⟨init ++ qs', _, _, _, _, _, _, rfl, n0, e5, h5, hr5, ?_⟩, hlt⟩
            rw [wsum_app, hw5, List.take_length]
            omega
          rcases q with ⟨qp, qx, qy, qd⟩
          dsimp only at *
          rcases sd h4 with ⟨ds, rfl⟩ | ⟨ds, rfl⟩
          · cases hqx with
            | @lst ax xs _ sx dx =>
              cases hqy with
              | @lst ay ys _ sy dy =>
                have lx := L3.DpAll.length dx
                have ly := L3.DpAll.length dy
                have sx3 := e3.sqL sx
                have sy3 := e3.sqL sy
                repeat walk_at "st"
                rw [lx, ly, decide_eq_true rfl]
                refine iteF ?_
                repeat walk_at "st"
                refine ⟨ax, ay, xs, ys, rfl, Or.inl ⟨sx3, sy3, for_it (walk_zip (n := ds.length) (by rw [lx, ly]; exact (Nat.min_self _).symm)) (SameZ K H x y l init ds · (some (.int (0 + (i : Int)))) (some (.ref ax)) (some (.ref ay)) (some (.int n))) ⟨[], _, _, rfl, e3, by simpa using h3', by simpa using hr3, by simp [wsum, wts]⟩
                  (fun j σ5 H5 _ ⟨_, _, _, _, e5, _⟩ => ⟨e5.sqL sx, e5.sqL sy⟩) (fun j v σ5 H5 H6 hj p ⟨T1, x1, y1, ev, hT, eH, g1, g2⟩ => ?_) (fin ds (by rw [wt]))⟩⟩
                subst ev eH
                exact inner xs ys ds ax ay _ dx dy (by rw [wt]) j x1 y1 T1 σ5 H5 g1 g2 p hT
          · cases hqx with
            | @tup ax xs _ sx dx =>
              cases hqy with
              | @tup ay ys _ sy dy =>
                have lx := L3.DpAll.length dx
                have ly := L3.DpAll.length dy
                have sx3 := e3.sqT sx
                have sy3 := e3.sqT sy
                repeat walk_at "st"
                rw [lx, ly, decide_eq_true rfl]
                refine iteF ?_
                repeat walk_at "st"
                refine ⟨ax, ay, xs, ys, rfl, Or.inr ⟨sx3, sy3, RZ.for_zipT (xs := xs) (ys := ys) (by rw [lx, ly]) (SameZ K H x y l init ds · (some (.int (0 + (i : Int)))) (some (.ref ax)) (some (.ref ay)) (some (.int n))) ⟨[], _, _, rfl, e3, by simpa using h3', by simpa using hr3, by simp [wsum, wts]⟩
                  (fun j σ5 H5 ⟨_, _, _, _, e5, _⟩ => ⟨e5.sqT sx, e5.sqT sy⟩) (fun j x1 y1 T1 σ5 H5 g1 g2 p hT => inner xs ys ds ax ay _ dx dy (by rw [wt]) j x1 y1 T1 σ5 H5 g1 g2 p hT) (by rw [lx]; exact fin ds (by rw [wt]))⟩⟩
        · rename_i h4
          have h4 : ¬ (4 : Int) ≤ n := fun z => h4 (decide_eq_true z)
          obtain ⟨eyx, sc⟩ := sf (by omega) (Dp_ex e3 _ _ hqy)
          repeat walk_at "st"
          rw [eyx]
          refine k_ne sc ?_
          repeat walk_at "st"
          rw [decide_eq_true rfl]
          refine iteF ?_
          repeat walk_at "st"
          exact ⟨⟨init, _, _, _, _, _, _, rfl, n0, e3, h3', hr3, by omega⟩, hlt⟩
    · rintro σ' H' ⟨_, h⟩
      exact absurd h (by decide)
end


/-- the letters a to z -/
def letterB (c : Nat) : Bool := decide (c ∈ ("abcdefghijklmnopqrstuvwxyz" : Str).cps.toList)
def lettersB (z : Str) (most : Int) : Bool := decide ((1 : Int) ≤ (z.length : Int)) && (decide ((z.length : Int) ≤ most) && z.cps.toList.all letterB)
def spLetters : Sp := fun vs H Q _ => ∃ (z : Str) (m : Int), vs = [.str z, .int m] ∧ z.length ≤ 100 ∧ ∀ H', Ex H H' → Q (.bl (lettersB z m)) H'
section
variable {P : Program} {w : World} {K : PySem.W.Frag} {mg : Str → Option Value} {base : Heap}
theorem c_has_letters_only (T : Tx w K mg) : Cal P w K mg base CX0 1 "has_letters_only" ["text", "most"] spLetters := by
  refine cal_mk T.D_has_letters_only T.m_has_letters_only sc_has_letters_only (fun _ _ _ _ _ _ us hl => match us, hl with | [_, _], _ => rfl) (fun vs H Q E h => ?_) (fun f cdv A outer s H vs Q E hr h => ?_)
  · obtain ⟨x, y, rfl, _⟩ := h
    rfl
  · obtain ⟨z, m, rfl, hz, k⟩ := h
    refine ⟨_, ((pss_one (ps_ret (pe_and (pe_chain o_le o_le pe_int (pe_callB cr_lenS rfl T.f_len (by decide +kernel) (pa_cons (pv 0) pa_nil)) (pv 1)) (pe_one (pe_callB (cr_all rfl) rfl T.f_all (by decide +kernel) (pa_cons (pe_lc (own := [("letter", 2)]) rfl sc_has_letters_only.nd (pi_str (pv 0)) (blkOk_by (N := ["text", "most", "letter"]) (sc := defScope s_has_letters_only) (by decide +kernel)) (fun _ _ _ _ _ => (pg_name (i := 2) sc_has_letters_only.nd rfl (Or.inl rfl))) (fun _ _ _ _ _ => pts_nil) (fun _ _ _ _ _ => (pe_cmpR o_inS (pv 2) (by exact C8.pe_gc rfl T.g_LETTERS) rfl))) pa_nil))))))), ?_⟩
    dsimp only [cxOf, Cx.nox]
    repeat walk_at "st"
    have kk : ∀ b, b = lettersB z m → ∀ H', Ex H H' → Q (.bl b) H' := fun b e H' h => by
      rw [e]
      exact k H' h
    by_cases c1 : (1 : Int) ≤ (z.length : Int)
    · rw [decide_eq_true c1]
      repeat walk_at "st"
      by_cases c2 : (z.length : Int) ≤ m
      · rw [decide_eq_true c2]
        repeat walk_at "st"
        refine lc_rel (walk_str (z := z)) (fun _ => true) (fun i y _ => ∃ c, z.cps[i]? = some c ∧ y = V.bl (letterB c)) (by have : z.cps.size = z.length := rfl; omega) (fun _ _ _ _ _ h => h) (fun _ _ => trivial) (fun i x H' H'' R1 R0 hi e y k1 k0 => ?_) (fun D H' ys hD e hL pr => ?_)
        · obtain ⟨rfl, c, hc, rfl⟩ := y
          refine ⟨rfl, ?_⟩
          repeat walk_at "st"
          exact k1 _ _ (Ex.refl _) rfl ⟨c, hc, rfl⟩
        rw [filter_true] at pr
        have e2 : ys = (z.cps.toList.map letterB).map V.bl := Paired.eq_of pr (by simp) fun i y hi ⟨c, hc, ey⟩ => by
          rw [List.map_map, List.getElem?_map, Array.getElem?_toList, hc, ey]
          rfl
        rw [e2] at hL
        repeat walk_at "st"
        refine ⟨D, z.cps.toList.map letterB, rfl, Or.inl (Or.inl hL), ?_⟩
        refine kk _ ?_ _ e
        unfold lettersB
        rw [decide_eq_true c1, decide_eq_true c2, List.all_map]
        rfl
      · rw [decide_eq_false c2]
        repeat walk_at "st"
        refine kk _ ?_ _ (Ex.refl H)
        unfold lettersB
        rw [decide_eq_true c1, decide_eq_false c2]
        rfl
    · rw [decide_eq_false c1]
      repeat walk_at "st"
      refine kk _ ?_ _ (Ex.refl H)
      unfold lettersB
      rw [decide_eq_false c1]
      rfl
end


def notNames : List Str := ["nil", "some", "or", "any", "cell", "row", "proc", "if", "else", "end", "free", "new", "link", "mark", "drop"]
def nameB (z : Str) : Bool := lettersB z 4 && !inV (.str z) (notNames.map V.str)
def spName : Sp := fun vs H Q _ => ∃ (z : Str), vs = [.str z] ∧ z.length ≤ 100 ∧ ∀ H', Ex H H' → Q (.bl (nameB z)) H'
section
variable {P : Program} {w : World} {K : PySem.W.Frag} {mg : Str → Option Value} {base : Heap}
theorem c_is_name (T : Tx w K mg) : Cal P w K mg base CX0 2 "is_name" ["text"] spName := by
  refine cal_mk T.D_is_name T.m_is_name sc_is_name (fun _ _ _ _ _ _ us hl => match us, hl with | [_], _ => rfl) (fun vs H Q E h => ?_) (fun f cdv A outer s H vs Q E hr h => ?_)
  · obtain ⟨x, rfl, _⟩ := h
    rfl
  · obtain ⟨z, rfl, hz, k⟩ := h
    refine ⟨_, ((pss_one (ps_ret (pe_and (by exact pe_cal (c_has_letters_only T) hr (by decide) rfl pass0 (pa_cons (pv 0) (pa_cons (by exact C8.pe_gc rfl T.g_MOST_IN_NAME) pa_nil))) (pe_one (pe_cmpR op_notIn_seq (pv 0) (by exact C8.pe_gc rfl T.g_NOT_NAMES) rfl)))))), ?_⟩
    dsimp only [cxOf, Cx.nox]
    repeat walk_at "st"
    refine ⟨z, 4, rfl, hz, fun H1 e1 => ?_⟩
    repeat walk_at "st"
    by_cases c1 : lettersB z 4 = true
    · rw [c1]
      repeat walk_at "st"
      refine k_in (xs := notNames.map V.str) (Or.inr (T.t_NOT_NAMES H1)) rfl (by decide +kernel) ?_
      have e : (if true = true then !inV (V.str z) (notNames.map V.str) else inV (V.str z) (notNames.map V.str)) = nameB z := by
        rw [if_pos rfl]
        unfold nameB
        rw [c1]
        rfl
      rw [e]
      exact k H1 e1
    · have c1 : lettersB z 4 = false := Bool.eq_false_iff.mpr c1
      rw [c1]
      repeat walk_at "st"
      have e : false = nameB z := by
        unfold nameB
        rw [c1]
        rfl
      rw [e]
      exact k H1 e1
end


/-! ### heaps as data -/
structure Cell where
  a : Int
  m : Str
  l : Int
  s : Int
  deriving DecidableEq
abbrev hC (K : PySem.W.Frag) : Addr := He.ga K "Heap"
def dName (p : Str × Int) : PyData := .tuple [.str p.1, .int p.2]
def dNames (ns : List (Str × Int)) : PyData := .tuple (ns.map dName)
def dCell (c : Cell) : PyData := .tuple [.int c.a, .str c.m, .int c.l, .int c.s]
def dCells (cs : List Cell) : PyData := .tuple (cs.map dCell)
def rowT (c : Cell) : List V := [.str c.m, .int c.l, .int c.s]
def fullT (c : Cell) : List V := [.int c.a, .str c.m, .int c.l, .int c.s]
def kC (c : Cell) : L2.Key := Sum.inl c.a
def TRow (H : Hp) (c : Cell) (v : V) : Prop := ∃ t, v = V.ref t ∧ H t = some (.tup (rowT c))
def TFull (H : Hp) (c : Cell) (v : V) : Prop := ∃ t, v = V.ref t ∧ H t = some (.tup (fullT c))
abbrev RowsOf (H : Hp) (kvs : List (L2.Key × V)) (cs : List Cell) : Prop := RowsK kC TRow H kvs cs
abbrev cellOf (cs : List Cell) (a : Int) : Option Cell := rowAt kC cs (Sum.inl a)
theorem TRow.ex {H H' : Hp} {c : Cell} {v : V} (e : Ex H H') (h : TRow H c v) : TRow H' c v := let ⟨t, h1, h2⟩ := h; ⟨t, h1, e _ _ h2⟩
theorem TFull.ex {H H' : Hp} {c : Cell} {v : V} (e : Ex H H') (h : TFull H c v) : TFull H' c v := let ⟨t, h1, h2⟩ := h; ⟨t, h1, e _ _ h2⟩
def CsOk (cs : List Cell) : Prop := cs.Pairwise fun x y => x.a < y.a
def NmOk (ns : List (Str × Int)) : Prop := ns.Pairwise fun x y => x.1.cps.toList < y.1.cps.toList
theorem CsOk.nd {cs : List Cell} (h : CsOk cs) : (cs.map kC).Nodup := by
  unfold CsOk at h
  rw [List.nodup_iff_pairwise_ne, List.pairwise_map]
  exact h.imp fun {a b} h e => by
    have : a.a = b.a := Sum.inl.inj e
    omega
theorem NmOk.nd {ns : List (Str × Int)} (h : NmOk ns) : (ns.map (·.1)).Nodup := by
  unfold NmOk at h
  rw [List.nodup_iff_pairwise_ne, List.pairwise_map]
  exact h.imp fun {a b} h (e : a.1 = b.1) => str_lt_irrefl _ (by rw [e] at h; exact h)
theorem CsOk.uniq {cs ds : List Cell} (h : CsOk cs) (k : CsOk ds) (e : ∀ c, c ∈ cs ↔ c ∈ ds) : cs = ds := strict_unique (fun a h => by omega) (fun a b c h k => by omega) h k e
theorem CsOk.uniqO {cs ds : List Cell} (h : CsOk cs) (k : CsOk ds) (e : ∀ a, cellOf cs a = cellOf ds a) : cs = ds :=
  h.uniq k ((rowAt_ext h.nd k.nd).mpr fun z => match z with
    | .inl a => e a
    | .inr x => by
      rw [rowAt_none' (fun c _ => by simp [kC]), rowAt_none' (fun c _ => by simp [kC])])
theorem NmOk.uniq {ns ms : List (Str × Int)} (h : NmOk ns) (k : NmOk ms) (e : ∀ c, c ∈ ns ↔ c ∈ ms) : ns = ms := strict_unique (fun a => str_lt_irrefl a.1) (fun a b c => str_lt_trans a.1 b.1 c.1) h k e
def hf (tn tc d : Addr) : List (Str × V) := [("names", .ref tn), ("cells", .ref tc), ("_rows", .ref d)]
structure HeapA (K : PySem.W.Frag) (H : Hp) (p : Addr) (ns : List (Str × Int)) (cs : List Cell) (dx tn tc d : Addr) (kvs : List (L2.Key × V)) : Prop where
  ins : H p = some (.ins (hC K) dx (hf tn tc d))
  nms : Dp K H (.ref tn) (dNames ns)
  cls : Dp K H (.ref tc) (dCells cs)
  dic : H d = some (.dK kvs)
  rows : RowsOf H kvs cs
  lc : cs.length ≤ 60
  ln : ns.length ≤ 20
  co : CsOk cs
  no : NmOk ns
  sn : ∀ n, n ∈ ns → PyData.strOk n.1 = true
  sc : ∀ c, c ∈ cs → PyData.strOk c.m = true ∧ c.a.natAbs ≤ 9999
def HeapAt (K : PySem.W.Frag) (H : Hp) (p : Addr) (ns : List (Str × Int)) (cs : List Cell) : Prop := ∃ dx tn tc d kvs, HeapA K H p ns cs dx tn tc d kvs
theorem HeapA.ex {K : PySem.W.Frag} {H H' : Hp} (e : Ex H H') {p : Addr} {ns : List (Str × Int)} {cs : List Cell} {dx tn tc d : Addr} {kvs : List (L2.Key × V)} (h : HeapA K H p ns cs dx tn tc d kvs) : HeapA K H' p ns cs dx tn tc d kvs :=
  ⟨e _ _ h.ins, Dp_ex e _ _ h.nms, Dp_ex e _ _ h.cls, e _ _ h.dic, RowsK.ex (fun _ _ _ _ e h => h.ex e) e h.rows, h.lc, h.ln, h.co, h.no, h.sn, h.sc⟩
theorem HeapAt.ex {K : PySem.W.Frag} {H H' : Hp} (e : Ex H H') {p : Addr} {ns : List (Str × Int)} {cs : List Cell} (h : HeapAt K H p ns cs) : HeapAt K H' p ns cs :=
  let ⟨dx, tn, tc, d, kvs, a⟩ := h; ⟨dx, tn, tc, d, kvs, a.ex e⟩
theorem hf_names (tn tc d : Addr) : (hf tn tc d).lookup ("names" : Str) = some (.ref tn) := by with_unfolding_all rfl
theorem hf_cells (tn tc d : Addr) : (hf tn tc d).lookup ("cells" : Str) = some (.ref tc) := by with_unfolding_all rfl
theorem hf_rows (tn tc d : Addr) : (hf tn tc d).lookup ("_rows" : Str) = some (.ref d) := by with_unfolding_all rfl
theorem hf_cell (tn tc d : Addr) : (hf tn tc d).lookup ("cell" : Str) = none := by with_unfolding_all rfl
def hf1 (tn : Addr) : List (Str × V) := [("names", .ref tn)]
def hf2 (tn tc : Addr) : List (Str × V) := [("names", .ref tn), ("cells", .ref tc)]
theorem hf2_cells (tn tc : Addr) : (hf2 tn tc).lookup ("cells" : Str) = some (.ref tc) := by with_unfolding_all rfl
theorem hf_1 (tn : Addr) : putF "names" (.ref tn) [] = hf1 tn := rfl
theorem hf_2 (tn tc : Addr) : putF "cells" (.ref tc) (hf1 tn) = hf2 tn tc := by
  show (if ("names" : Str) = "cells" then _ else _) = _
  rw [if_neg (by decide +kernel)]
  rfl
theorem hf_3 (tn tc d : Addr) : putF "_rows" (.ref d) (hf2 tn tc) = hf tn tc d := by
  show (if ("names" : Str) = "_rows" then _ else (("names" : Str), V.ref tn) :: (if ("cells" : Str) = "_rows" then _ else _)) = _
  rw [if_neg (by decide +kernel), if_neg (by decide +kernel)]
  rfl
theorem hf_n (tn tc d tn' : Addr) : putF "names" (.ref tn') (hf tn tc d) = hf tn' tc d := by
  show (if ("names" : Str) = "names" then _ else _) = _
  rw [if_pos rfl]
  rfl
theorem hf_c (tn tc d tc' : Addr) : putF "cells" (.ref tc') (hf tn tc d) = hf tn tc' d := by
  show (if ("names" : Str) = "cells" then _ else (("names" : Str), V.ref tn) :: (if ("cells" : Str) = "cells" then _ else _)) = _
  rw [if_neg (by decide +kernel), if_pos rfl]
  rfl
theorem hf_r (tn tc d d' : Addr) : putF "_rows" (.ref d') (hf tn tc d) = hf tn tc d' := by
  show (if ("names" : Str) = "_rows" then _ else (("names" : Str), V.ref tn) :: (if ("cells" : Str) = "_rows" then _ else (("cells" : Str), V.ref tc) :: (if ("_rows" : Str) = "_rows" then _ else _))) = _
  rw [if_neg (by decide +kernel), if_neg (by decide +kernel), if_pos rfl]
  rfl
/-- what .cell gives -/
def RowV (H : Hp) (o : Option Cell) (v : V) : Prop := match o with
  | none => v = .non
  | some c => TRow H c v
theorem rowsV {H : Hp} {kvs : List (L2.Key × V)} {cs : List Cell} (r : RowsOf H kvs cs) (a : Int) : RowV H (cellOf cs a) ((valV kvs (Sum.inl a)).getD .non) := by
  have q := r.val (Sum.inl a)
  unfold AtR at q
  unfold RowV cellOf
  cases e : rowAt kC cs (Sum.inl a) with
  | none =>
    rw [e] at q
    rw [show valV kvs (Sum.inl a) = none from q]
    rfl
  | some c =>
    rw [e] at q
    obtain ⟨x, h1, h2⟩ := q
    rw [h1]
    exact h2
def spCell (K : PySem.W.Frag) : Sp := fun vs H Q _ => ∃ (p : Addr) (a : Int) (ns : List (Str × Int)) (cs : List Cell), vs = [.ref p, .int a] ∧ HeapAt K H p ns cs ∧ ∀ v, RowV H (cellOf cs a) v → Q v H
section
variable {P : Program} {w : World} {K : PySem.W.Frag} {mg : Str → Option Value} {base : Heap}
theorem me_Heap_cell (T : Tx w K mg) : Met P w K mg base CX0 1 (hC K) "cell" ["self", "address"] (spCell K) := by
  refine met_mk T.D_Heap_cell T.me_Heap_cell sc_Heap_cell (fun _ _ _ _ _ _ us hl => match us, hl with | [_, _], _ => rfl) (fun vs H Q E h => ?_) (fun f cdv A outer s H vs Q E hr h => ?_)
  · obtain ⟨p, a, ns, cs, rfl, _⟩ := h
    rfl
  · obtain ⟨p, a, ns, cs, rfl, ⟨dx, tn, tc, d, kvs, h⟩, k⟩ := h
    have hu := hu_of hr
    refine ⟨_, ((pss_one (ps_ret (pe_dget1 hu (pe_fld (pv 0) rfl) (pv 1) ⟨rfl, rfl, rfl, rfl⟩)))), ?_⟩
    dsimp only [cxOf, Cx.nox]
    repeat walk_at "st"
    refine ⟨p, _, dx, _, _, rfl, h.ins, T.cls_Heap, T.no_Heap__rows, hf_rows _ _ _, d, rfl, k_dget1E (.inl h.dic) ?_⟩
    repeat walk_at "st"
    exact ⟨_, DGet.rd (k := Sum.inl a) (.inl h.dic), k _ (rowsV h.rows a)⟩
end


/-! ### heap_names, heap_cells -/
def NmIn (n : Str × Int) : Prop := nameB n.1 = true ∧ n.1.length ≤ 100 ∧ 0 ≤ n.2 ∧ n.2 ≤ 9999 ∧ PyData.strOk n.1 = true
def kvN (ns : List (Str × Int)) : List (L2.Key × V) := ns.map fun n => (Sum.inr n.1, V.int n.2)
def SeqOf (K : PySem.W.Frag) (H : Hp) (p : Addr) (xs : List V) : Prop := SqL K H p xs ∨ SqT K H p xs
theorem SeqOf.ex {K : PySem.W.Frag} {H H' : Hp} (e : Ex H H') {p : Addr} {xs : List V} (h : SeqOf K H p xs) : SeqOf K H' p xs := h.elim (fun h => .inl (e.sqL h)) fun h => .inr (e.sqT h)
def spNames (K : PySem.W.Frag) : Sp := fun vs H Q _ => ∃ (p : Addr) (xs : List V) (ns : List (Str × Int)), vs = [.ref p] ∧ SeqOf K H p xs ∧ DpAll K H xs (ns.map dName) ∧ (∀ n, n ∈ ns → NmIn n) ∧ (ns.map (·.1)).Nodup ∧ ns.length ≤ 20 ∧
  ∀ H' t ns', Ex H H' → Dp K H' (.ref t) (dNames ns') → NmOk ns' → (∀ n, n ∈ ns' ↔ n ∈ ns) → ns'.length = ns.length → Q (.ref t) H'
theorem kvN_none {ns : List (Str × Int)} {x : Str} (h : x ∉ ns.map (·.1)) : valV (kvN ns) (Sum.inr x) = none := by
  induction ns with
  | nil => rfl
  | cons n ns ih =>
    rw [List.map_cons, List.mem_cons, not_or] at h
    show valV ((Sum.inr n.1, V.int n.2) :: kvN ns) _ = none
    rw [valV_neg (fun e => h.1 (Sum.inr.inj e).symm)]
    exact ih h.2
theorem kvN_some {ns : List (Str × Int)} (nd : (ns.map (·.1)).Nodup) {n : Str × Int} (h : n ∈ ns) : valV (kvN ns) (Sum.inr n.1) = some (.int n.2) := by
  induction ns with
  | nil => cases h
  | cons m ns ih =>
    rw [List.map_cons, List.nodup_cons] at nd
    show valV ((Sum.inr m.1, V.int m.2) :: kvN ns) _ = _
    rcases List.mem_cons.mp h with e | e
    · rw [e, valV_pos rfl]
    · rw [valV_neg (fun z => nd.1 (List.mem_map.mpr ⟨n, e, (Sum.inr.inj z).symm⟩))]
      exact ih nd.2 e
theorem kvN_put {ns : List (Str × Int)} {n : Str × Int} (h : n.1 ∉ ns.map (·.1)) : putK (kvN ns) (Sum.inr n.1) (.int n.2) = kvN (ns ++ [n]) := by
  rw [putK_new _ (kvN_none h)]
  unfold kvN
  rw [List.map_append]
  rfl
theorem kvN_keys (ns : List (Str × Int)) : (kvN ns).map (·.1) = (ns.map (·.1)).map Sum.inr := by
  unfold kvN
  rw [List.map_map, List.map_map]
  rfl
theorem take_nodup {α : Type} {l : List α} (h : l.Nodup) {i : Nat} {x : α} (e : l[i]? = some x) : x ∉ l.take i := by
  intro m
  obtain ⟨j, hj⟩ := List.mem_iff_getElem?.mp m
  have hlt : j < i := by
    have := (List.getElem?_eq_some_iff.mp hj).1
    rw [List.length_take] at this
    omega
  rw [List.getElem?_take_of_lt hlt] at hj
  obtain ⟨a1, a2⟩ := List.getElem?_eq_some_iff.mp e
  obtain ⟨b1, b2⟩ := List.getElem?_eq_some_iff.mp hj
  have := (List.getElem_inj h).mp (a2.trans b2.symm)
  omega
/-- a sorted list of keys gives the sorted rows -/
theorem rows_of_keys {α κ : Type} [DecidableEq κ] {key : α → κ} {cs : List α} (nd : (cs.map key).Nodup) {ks : List κ} (p : ks.Perm (cs.map key)) : ∃ ds : List α, ds.map key = ks ∧ ds.length = cs.length ∧ ∀ c, c ∈ ds ↔ c ∈ cs := by
  have h : ∀ (ks : List κ), (∀ k ∈ ks, k ∈ cs.map key) → ∃ ds : List α, ds.map key = ks ∧ ∀ c ∈ ds, c ∈ cs := by
    intro ks
    induction ks with
    | nil => exact fun _ => ⟨[], rfl, fun _ h => nomatch h⟩
    | cons k ks ih =>
      intro h
      obtain ⟨ds, e, m⟩ := ih fun j hj => h j (List.mem_cons_of_mem _ hj)
      obtain ⟨c, hc, ec⟩ := List.mem_map.mp (h k (List.mem_cons_self ..))
      refine ⟨c :: ds, by rw [List.map_cons, e, ec], fun d hd => ?_⟩
      rcases List.mem_cons.mp hd with z | z
      · rw [z]; exact hc
      · exact m d z
  obtain ⟨ds, e, m⟩ := h ks fun k hk => p.mem_iff.mp hk
  refine ⟨ds, e, ?_, fun c => ⟨m c, fun hc => ?_⟩⟩
  · have := p.length_eq
    rw [← e, List.length_map, List.length_map] at this
    exact this
  · have : key c ∈ ds.map key := by
      rw [e]
      exact p.mem_iff.mpr (List.mem_map.mpr ⟨c, hc, rfl⟩)
    obtain ⟨d, hd, ed⟩ := List.mem_map.mp this
    have hd2 := m d hd
    have e1 := rowAt_mem nd hc
    have e2 := rowAt_mem nd hd2
    rw [ed, e1] at e2
    rw [Option.some.inj e2]
    exact hd
theorem map_at {α : Type} {f : α → PyData} {l : List α} {i : Nat} {d : PyData} (h : (l.map f)[i]? = some d) : ∃ a, l[i]? = some a ∧ d = f a := by
  rw [List.getElem?_map] at h
  cases e : l[i]? with
  | none => rw [e] at h; cases h
  | some a => rw [e] at h; exact ⟨a, rfl, (Option.some.inj h).symm⟩
theorem dp_name {K : PySem.W.Frag} {H : Hp} {x : V} {n : Str × Int} (h : Dp K H x (dName n)) : ∃ t, x = .ref t ∧ SqT K H t [.str n.1, .int n.2] := by
  unfold dName at h
  cases h with
  | tup hs ha =>
    cases ha with
    | cons h1 ha => cases ha with
      | cons h2 ha =>
        cases ha
        cases h1
        cases h2
        exact ⟨_, rfl, hs⟩
def NmsI (K : PySem.W.Frag) (H : Hp) (p d : Addr) (ns : List (Str × Int)) (i : Nat) (σ : L2.St) (H' : Hp) : Prop := ∃ v2 v3 v4, σ = [some (.ref p), some (.ref d), v2, v3, v4] ∧ Ex H H' ∧ H d = none ∧ H' d = some (.dK (kvN (ns.take i)))
section
variable {P : Program} {w : World} {K : PySem.W.Frag} {mg : Str → Option Value} {base : Heap}
theorem c_heap_names (T : Tx w K mg) : Cal P w K mg base CX0 3 "heap_names" ["names"] (spNames K) := by
  refine cal_mk T.D_heap_names T.m_heap_names sc_heap_names (fun _ _ _ _ _ _ us hl => match us, hl with | [_], _ => rfl) (fun vs H Q E h => ?_) (fun f cdv A outer s H vs Q E hr h => ?_)
  · obtain ⟨p, xs, ns, rfl, _⟩ := h
    rfl
  · obtain ⟨p, xs, ns, rfl, hs, hd, hok, nd, hl, k⟩ := h
    have hu := hu_of hr
    have hlen : xs.length = ns.length := by rw [L3.DpAll.length hd, List.length_map]
    refine ⟨_, ((pss_cons (ps_set (i := 1) sc_heap_names.nd rfl (Or.inr rfl) pe_dnewK)
  (pss_cons (ps_for PassesOwn.never rfl (pi_enumA rfl T.f_enumerate (pa_cons (pv 0) pa_nil)) (pg_tup (n := 2) rfl (pgs_cons (pg_name (i := 2) sc_heap_names.nd rfl (Or.inl rfl)) (pgs_cons (pg_tup (n := 2) rfl (pgs_cons (pg_name (i := 3) sc_heap_names.nd rfl (Or.inl rfl)) (pgs_cons (pg_name (i := 4) sc_heap_names.nd rfl (Or.inl rfl)) pgs_nil))) pgs_nil))) (pss_cons (ps_if (pt_not (pt_val (by exact pe_cal (c_is_name T) hr (by decide) rfl pass0 (pa_cons (pv 3) pa_nil)))) (pss_one ps_never) pss_nil)
  (pss_cons (ps_if (pt_cmp (pc_din hu (pv 3) (pv 1)) rfl) (pss_one ps_never) pss_nil)
  (pss_cons (ps_if (pt_not (pt_chain o_le o_le pe_int (pv 4) (by exact C8.pe_gc rfl T.g_MOST_VALUE))) (pss_one ps_never) pss_nil)
  (pss_one (ps_dput hu (pv 1) (pv 3) (pv 4) rfl))))))
  (pss_one (ps_ret (pe_callTy cr_tupOf rfl T.f_tuple (by decide +kernel) (pa_cons (pe_lc (own := [("name", 3)]) rfl sc_heap_names.nd (pi_list (pe_callB (call_sortedD rfl) rfl T.f_sorted (by decide +kernel) (pa_cons (pv 1) pa_nil))) (blkOk_by (N := ["names", "known", "at", "name", "number"]) (sc := defScope s_heap_names) (by decide +kernel)) (fun _ _ _ _ _ => (pg_name (i := 3) sc_heap_names.nd rfl (Or.inl rfl))) (fun _ _ _ _ _ => pts_nil) (fun _ _ _ _ _ => (pe_tup (pa_cons (pv 3) (pa_cons (pe_dget hu (pv 1) (pv 3) (fun _ _ => rfl)) pa_nil))))) pa_nil))))))), ?_⟩
    dsimp only [cxOf, Cx.nox]
    repeat walk_at "st"
    refine k_dnew fun d H1 hd0 e1 h1 => ?_
    repeat walk_at "st"
    refine k_enumAE (xs := xs) hs e1 fun J G hG wk => ?_
    refine for_it wk (NmsI K H p d ns) ⟨none, none, none, rfl, e1, hd0, h1⟩ (fun i σ' H' _ ⟨_, _, _, _, e, n0, h2⟩ => hG _ e) (fun i x σ' H' H'' hi ⟨v2, v3, v4, es, e, n0, h2⟩ y => ?_) (fun σ' H' ⟨v2, v3, v4, es, e, n0, h2⟩ => ?_)
    · subst es
      obtain ⟨t0, x0, y0, rfl, ht0, rfl, ex0, ey0⟩ := y
      cases ex0
      obtain ⟨d0, hd1, hdp⟩ := L3.DpAll.get hd ey0
      obtain ⟨n, hn, rfl⟩ := map_at hd1
      obtain ⟨tn, rfl, hsn⟩ := dp_name hdp
      have e3 : Ex H' (upd H' t0 (.tup [.int (i : Nat), .ref tn])) := Ex.new ht0
      have h3 : upd H' t0 (.tup [.int (i : Nat), .ref tn]) t0 = some (.tup [.int (i : Nat), .ref tn]) := upd_same
      generalize upd H' t0 (.tup [.int (i : Nat), .ref tn]) = H3 at e3 h3
      have h2' := e3.get h2
      have eH3 : Ex H H3 := e.trans e3
      have hmem : n ∈ ns := List.mem_of_getElem? hn
      obtain ⟨o1, o2, o3, o4, _⟩ := hok n hmem
      have nin : n.1 ∉ (ns.take i).map (·.1) := by
        rw [List.map_take]
        exact take_nodup nd (by rw [List.getElem?_map, hn]; rfl)
      repeat walk_at "st"
      refine k_gTup (eH3.sqT hsn) rfl ?_
      repeat walk_at "st"
      refine ⟨n.1, rfl, o2, fun H4 e4 => ?_⟩
      rw [o1]
      have h4 := e4.get h2'
      repeat walk_at "st"
      refine k_dinE (k := Sum.inr n.1) rfl (.inl h4) ?_
      rw [kvN_none nin]
      repeat walk_at "st"
      rw [decide_eq_true o3]
      refine iteT ?_
      repeat walk_at "st"
      rw [decide_eq_true o4]
      repeat walk_at "st"
      refine k_dputE (k := Sum.inr n.1) rfl h4 (by unfold kvN; rw [List.length_map, List.length_take, sizeLine_eq]; omega) fun H5 b5 h5 => ?_
      rw [kvN_put nin] at h5
      have et : ns.take i ++ [n] = ns.take (i + 1) := by rw [List.take_add_one, hn]; rfl
      rw [et] at h5
      exact ⟨_, _, _, rfl, ExB.old (eH3.trans e4) n0 b5, n0, h5⟩
    · subst es
      rw [hlen, List.take_length] at h2
      repeat walk_at "st"
      refine ⟨d, kvN ns, ns.map (·.1), rfl, .inl h2, kvN_keys ns, by rw [List.length_map]; omega, fun ys pl pm so np => ?_⟩
      obtain ⟨ds, eds, eln, emem⟩ := rows_of_keys (key := fun n : Str × Int => n.1) nd pm
      have hno : NmOk ds := by
        have q := strs_strict pm so nd
        rw [← eds, List.pairwise_map] at q
        exact q
      have e4 : Ex H' (upd H' pl (.lst (ys.map V.str))) := Ex.new np
      have h4 : upd H' pl (.lst (ys.map V.str)) pl = some (.lst (ys.map V.str)) := upd_same
      generalize upd H' pl (.lst (ys.map V.str)) = H4 at e4 h4
      refine ⟨pl, rfl, ⟨_, .inl (.inl h4)⟩, ?_⟩
      have yl : (ys.map V.str).length = ds.length := by rw [List.length_map, ← eds, List.length_map]
      refine lc_rel (walk_list (xs := ys.map V.str)) (fun _ => true) (fun i y H' => ∃ n t, ds[i]? = some n ∧ y = V.ref t ∧ H' t = some (.tup [.str n.1, .int n.2])) (by rw [yl, eln]; omega)
        (fun i y H H' e ⟨n, t, a, b, c⟩ => ⟨n, t, a, b, e _ _ (fun l z => nomatch z) c⟩) (fun H' e => .inl (.inl (e.get h4))) (fun i x H' H'' R1 R0 hi e5 y k1 k0 => ?_) (fun D H' vs hD e5 hL pr => ?_)
      · obtain ⟨rfl, y⟩ := y
        rw [List.getElem?_map, ← eds, List.getElem?_map] at y
        cases en : ds[i]? with
        | none => rw [en] at y; cases y
        | some n =>
          rw [en] at y
          cases y
          have h5 := e5.get (e4.get h2)
          have hv := kvN_some nd ((emem n).mp (List.mem_of_getElem? en))
          refine ⟨rfl, ?_⟩
          repeat walk_at "st"
          dsimp only
          refine k_dgetE (k := Sum.inr n.1) rfl (.inl h5) hv ?_
          repeat walk_at "st"
          intro t H6 ht e6 h6
          exact k1 _ _ e6 rfl ⟨n, t, en, rfl, h6⟩
      · rw [filter_true] at pr
        repeat walk_at "st"
        refine k_tupL (.inl (.inl hL)) fun l H6 hl6 e6 h6 => ?_
        refine k _ _ ds (((e.trans e4).trans e5).trans e6) (.tup (.inl (.inl h6)) (dpAll_of ?_ fun j v dd q1 q2 => ?_)) hno emem eln
        · have := Paired.length pr
          rw [List.length_range] at this
          rw [List.length_map, ← this, yl]
        · obtain ⟨n, hn, rfl⟩ := map_at q2
          have hj : j < ds.length := (List.getElem?_eq_some_iff.mp hn).1
          obtain ⟨y, a, n', t, b1, b2, b3⟩ := Paired.get' pr (i := j) (x := j) (by rw [List.getElem?_range (by omega)])
          rw [hn] at b1
          cases b1
          rw [q1] at a
          cases a
          rw [b2]
          exact .tup (.inl (.inl (e6.get b3))) (.cons (.str _) (.cons (.int _) .nil))
end


def marks : List Str := ["a", "b", "c"]
def CellIn (c : Cell) : Prop := (1 ≤ c.a ∧ c.a ≤ 9999) ∧ inV (.str c.m) (marks.map V.str) = true ∧ (0 ≤ c.l ∧ c.l ≤ 9999) ∧ (1 ≤ c.s ∧ c.s ≤ 12) ∧ PyData.strOk c.m = true
def spCells (K : PySem.W.Frag) : Sp := fun vs H Q _ => ∃ (p : Addr) (xs : List V) (cs : List Cell), vs = [.ref p] ∧ SeqOf K H p xs ∧ DpAll K H xs (cs.map dCell) ∧ (∀ c, c ∈ cs → CellIn c) ∧ (cs.map kC).Nodup ∧ cs.length ≤ 60 ∧
  ∀ H' t cs', Ex H H' → Dp K H' (.ref t) (dCells cs') → CsOk cs' → (∀ c, c ∈ cs' ↔ c ∈ cs) → cs'.length = cs.length → Q (.ref t) H'
theorem dp_cell {K : PySem.W.Frag} {H : Hp} {x : V} {c : Cell} (h : Dp K H x (dCell c)) : ∃ t, x = .ref t ∧ SqT K H t (fullT c) := by
  unfold dCell at h
  cases h with
  | tup hs ha =>
    cases ha with
    | cons h1 ha => cases ha with
      | cons h2 ha => cases ha with
        | cons h3 ha => cases ha with
          | cons h4 ha =>
            cases ha
            cases h1
            cases h2
            cases h3
            cases h4
            exact ⟨_, rfl, hs⟩
theorem dp_cell' {K : PySem.W.Frag} {H : Hp} {t : Addr} {c : Cell} (h : SqT K H t (fullT c)) : Dp K H (.ref t) (dCell c) := .tup h (.cons (.int _) (.cons (.str _) (.cons (.int _) (.cons (.int _) .nil))))
theorem TFull_ex : ∀ (H H' : Hp) (c : Cell) (v : V), Ex H H' → TFull H c v → TFull H' c v := fun _ _ _ _ e h => h.ex e
theorem TRow_ex : ∀ (H H' : Hp) (c : Cell) (v : V), Ex H H' → TRow H c v → TRow H' c v := fun _ _ _ _ e h => h.ex e
def ClsI (K : PySem.W.Frag) (H : Hp) (p d : Addr) (cs : List Cell) (i : Nat) (σ : L2.St) (H' : Hp) : Prop := ∃ v2 v3 v4 v5 v6 kvs, σ = [some (.ref p), some (.ref d), v2, v3, v4, v5, v6] ∧ Ex H H' ∧ H d = none ∧ H' d = some (.dK kvs) ∧ RowsK kC TFull H' kvs (cs.take i)
theorem TFull.exB {H H' : Hp} {d : Addr} {kvs : List (L2.Key × V)} {c : Cell} {v : V} (hd : H d = some (.dK kvs)) (e : ExB d H H') (h : TFull H c v) : TFull H' c v :=
  let ⟨t, h1, h2⟩ := h; ⟨t, h1, e _ _ (ne_of h2 hd (fun z => nomatch z)) h2⟩
theorem TRow.exB {H H' : Hp} {d : Addr} {kvs : List (L2.Key × V)} {c : Cell} {v : V} (hd : H d = some (.dK kvs)) (e : ExB d H H') (h : TRow H c v) : TRow H' c v :=
  let ⟨t, h1, h2⟩ := h; ⟨t, h1, e _ _ (ne_of h2 hd (fun z => nomatch z)) h2⟩
theorem cellNew {cs : List Cell} (nd : (cs.map kC).Nodup) {i : Nat} {c : Cell} (hc : cs[i]? = some c) : rowAt kC (cs.take i) (kC c) = none := by
  refine rowAt_none' fun d hd e => ?_
  have : kC c ∉ (cs.map kC).take i := take_nodup nd (by rw [List.getElem?_map, hc]; rfl)
  rw [← List.map_take] at this
  exact this (List.mem_map.mpr ⟨d, hd, e⟩)
section
variable {P : Program} {w : World} {K : PySem.W.Frag} {mg : Str → Option Value} {base : Heap}
theorem c_heap_cells (T : Tx w K mg) : Cal P w K mg base CX0 3 "heap_cells" ["cells"] (spCells K) := by
  refine cal_mk T.D_heap_cells T.m_heap_cells sc_heap_cells (fun _ _ _ _ _ _ us hl => match us, hl with | [_], _ => rfl) (fun vs H Q E h => ?_) (fun f cdv A outer s H vs Q E hr h => ?_)
  · obtain ⟨p, xs, ns, rfl, _⟩ := h
    rfl
  · obtain ⟨p, xs, cs, rfl, hs, hd, hok, nd, hl, k⟩ := h
    have hu := hu_of hr
    have hlen : xs.length = cs.length := by rw [L3.DpAll.length hd, List.length_map]
    refine ⟨_, ((pss_cons (ps_set (i := 1) sc_heap_cells.nd rfl (Or.inr rfl) pe_dnewK)
  (pss_cons (ps_for PassesOwn.never rfl (pi_enumA rfl T.f_enumerate (pa_cons (pv 0) pa_nil)) (pg_tup (n := 2) rfl (pgs_cons (pg_name (i := 2) sc_heap_cells.nd rfl (Or.inl rfl)) (pgs_cons (pg_tup (n := 4) rfl (pgs_cons (pg_name (i := 3) sc_heap_cells.nd rfl (Or.inl rfl)) (pgs_cons (pg_name (i := 4) sc_heap_cells.nd rfl (Or.inl rfl)) (pgs_cons (pg_name (i := 5) sc_heap_cells.nd rfl (Or.inl rfl)) (pgs_cons (pg_name (i := 6) sc_heap_cells.nd rfl (Or.inl rfl)) pgs_nil))))) pgs_nil))) (pss_cons (ps_if (pt_not (pt_chain o_le o_le pe_int (pv 3) (by exact C8.pe_gc rfl T.g_MOST_VALUE))) (pss_one ps_never) pss_nil)
  (pss_cons (ps_if (pt_cmp (pc_din hu (pv 3) (pv 1)) rfl) (pss_one ps_never) pss_nil)
  (pss_cons (ps_if (pt_cmpR op_notIn_seq (pv 4) (by exact C8.pe_gc rfl T.g_MARKS_OF_CELLS) rfl) (pss_one ps_never) pss_nil)
  (pss_cons (ps_if (pt_not (pt_chain o_le o_le pe_int (pv 5) (by exact C8.pe_gc rfl T.g_MOST_VALUE))) (pss_one ps_never) pss_nil)
  (pss_cons (ps_if (pt_not (pt_chain o_le o_le pe_int (pv 6) (by exact C8.pe_gc rfl T.g_WHOLE))) (pss_one ps_never) pss_nil)
  (pss_one (ps_dput hu (pv 1) (pv 3) (pe_tup (pa_cons (pv 3) (pa_cons (pv 4) (pa_cons (pv 5) (pa_cons (pv 6) pa_nil))))) rfl))))))))
  (pss_one (ps_ret (pe_callTy cr_tupOf rfl T.f_tuple (by decide +kernel) (pa_cons (pe_lc (own := [("address", 3)]) rfl sc_heap_cells.nd (pi_list (pe_callB (call_sortedDI rfl) rfl T.f_sorted (by decide +kernel) (pa_cons (pv 1) pa_nil))) (blkOk_by (N := ["cells", "known", "at", "address", "mark", "link", "share"]) (sc := defScope s_heap_cells) (by decide +kernel)) (fun _ _ _ _ _ => (pg_name (i := 3) sc_heap_cells.nd rfl (Or.inl rfl))) (fun _ _ _ _ _ => pts_nil) (fun _ _ _ _ _ => (pe_dget hu (pv 1) (pv 3) (fun _ _ => rfl)))) pa_nil))))))), ?_⟩
    dsimp only [cxOf, Cx.nox]
    repeat walk_at "st"
    refine k_dnew fun d H1 hd0 e1 h1 => ?_
    repeat walk_at "st"
    refine k_enumAE (xs := xs) hs e1 fun J G hG wk => ?_
    refine for_it wk (ClsI K H p d cs) ⟨none, none, none, none, none, [], rfl, e1, hd0, h1, .nil⟩ (fun i σ' H' _ ⟨_, _, _, _, _, _, _, e, n0, h2, _⟩ => hG _ e) (fun i x σ' H' H'' hi ⟨v2, v3, v4, v5, v6, kvs, es, e, n0, h2, hr2⟩ y => ?_) (fun σ' H' ⟨v2, v3, v4, v5, v6, kvs, es, e, n0, h2, hr2⟩ => ?_)
    · subst es
      obtain ⟨t0, x0, y0, rfl, ht0, rfl, ex0, ey0⟩ := y
      cases ex0
      obtain ⟨d0, hd1, hdp⟩ := L3.DpAll.get hd ey0
      obtain ⟨c, hn, rfl⟩ := map_at hd1
      obtain ⟨tn, rfl, hsn⟩ := dp_cell hdp
      have e3 : Ex H' (upd H' t0 (.tup [.int (i : Nat), .ref tn])) := Ex.new ht0
      have h3 : upd H' t0 (.tup [.int (i : Nat), .ref tn]) t0 = some (.tup [.int (i : Nat), .ref tn]) := upd_same
      generalize upd H' t0 (.tup [.int (i : Nat), .ref tn]) = H3 at e3 h3
      have h2' := e3.get h2
      have hr3 := RowsK.ex TFull_ex e3 hr2
      have eH3 : Ex H H3 := e.trans e3
      have hmem : c ∈ cs := List.mem_of_getElem? hn
      obtain ⟨⟨o1, o2⟩, o3, ⟨o4, o5⟩, ⟨o6, o7⟩, _⟩ := hok c hmem
      have nin := cellNew nd hn
      have nv : valV kvs (Sum.inl c.a) = none := by
        have := hr3.val (kC c)
        rw [nin] at this
        exact this
      repeat walk_at "st"
      refine k_gTup (eH3.sqT hsn) rfl ?_
      unfold fullT
      repeat walk_at "st"
      rw [decide_eq_true o1]
      refine iteT ?_
      repeat walk_at "st"
      rw [decide_eq_true o2]
      repeat walk_at "st"
      refine k_dinE (k := Sum.inl c.a) rfl (.inl h2') ?_
      rw [nv]
      repeat walk_at "st"
      refine k_in (xs := marks.map V.str) (Or.inr (T.t_MARKS_OF_CELLS H3)) rfl (by decide +kernel) ?_
      rw [if_pos rfl, o3]
      repeat walk_at "st"
      rw [decide_eq_true o4]
      refine iteT ?_
      repeat walk_at "st"
      rw [decide_eq_true o5]
      repeat walk_at "st"
      rw [decide_eq_true o6]
      refine iteT ?_
      repeat walk_at "st"
      rw [decide_eq_true o7]
      repeat walk_at "st"
      intro t H4 ht e4 h4
      have h2'' := e4.get h2'
      repeat walk_at "st"
      refine k_dputE (k := Sum.inl c.a) rfl h2'' (by rw [hr3.length, List.length_take, sizeLine_eq]; omega) fun H5 b5 h5 => ?_
      have et : putR kC (cs.take i) c = cs.take (i + 1) := by rw [putR_new nin, List.take_add_one, hn]; rfl
      have hr5 := (RowsK.ex TFull_ex e4 hr3).put (c := c) (v := .ref t) ⟨t, rfl, h4⟩
      rw [et] at hr5
      exact ⟨_, _, _, _, _, _, rfl, ExB.old (eH3.trans e4) n0 b5, n0, h5, hr5.mono fun c v h => TFull.exB h2'' b5 h⟩
    · subst es
      rw [hlen, List.take_length] at hr2
      repeat walk_at "st"
      have hkeys : kvs.map (·.1) = (cs.map (·.a)).map Sum.inl := by
        rw [hr2.keys, List.map_map]
        rfl
      have nd' : (cs.map (·.a)).Nodup := by
        have : cs.map kC = (cs.map (·.a)).map Sum.inl := by rw [List.map_map]; rfl
        rw [this] at nd
        exact List.Pairwise.of_map Sum.inl (fun a b h e => h (by rw [e])) nd
      refine ⟨d, kvs, cs.map (·.a), rfl, .inl h2, hkeys, by rw [List.length_map]; omega, fun ys pl pm so np => ?_⟩
      obtain ⟨ds, eds, eln, emem⟩ := rows_of_keys (key := fun n : Cell => n.a) nd' pm
      have hno : CsOk ds := by
        have q := ints_strict pm so nd'
        rw [← eds, List.pairwise_map] at q
        exact q
      have e4 : Ex H' (upd H' pl (.lst (ys.map V.int))) := Ex.new np
      have h4 : upd H' pl (.lst (ys.map V.int)) pl = some (.lst (ys.map V.int)) := upd_same
      generalize upd H' pl (.lst (ys.map V.int)) = H4 at e4 h4
      refine ⟨pl, rfl, ⟨_, .inl (.inl h4)⟩, ?_⟩
      have yl : (ys.map V.int).length = ds.length := by rw [List.length_map, ← eds, List.length_map]
      refine lc_rel (walk_list (xs := ys.map V.int)) (fun _ => true) (fun i y H' => ∃ n t, ds[i]? = some n ∧ y = V.ref t ∧ H' t = some (.tup (fullT n))) (by rw [yl, eln]; omega)
        (fun i y H H' e ⟨n, t, a, b, c⟩ => ⟨n, t, a, b, e _ _ (fun l z => nomatch z) c⟩) (fun H' e => .inl (.inl (e.get h4))) (fun i x H' H'' R1 R0 hi e5 y k1 k0 => ?_) (fun D H' vs hD e5 hL pr => ?_)
      · obtain ⟨rfl, y⟩ := y
        rw [List.getElem?_map, ← eds, List.getElem?_map] at y
        cases en : ds[i]? with
        | none => rw [en] at y; cases y
        | some n =>
          rw [en] at y
          cases y
          have h5 := e5.get (e4.get h2)
          have hat := hr2.val (kC n)
          rw [rowAt_mem nd ((emem n).mp (List.mem_of_getElem? en))] at hat
          obtain ⟨v, hv, t, rfl, ht⟩ := hat
          refine ⟨rfl, ?_⟩
          dsimp only
          repeat walk_at "st"
          refine k_dgetE (k := Sum.inl n.a) rfl (.inl h5) hv ?_
          exact k1 _ _ (Ex.refl _) rfl ⟨n, t, en, rfl, e5.get (e4.get ht)⟩
      · rw [filter_true] at pr
        repeat walk_at "st"
        refine k_tupL (.inl (.inl hL)) fun l H6 hl6 e6 h6 => ?_
        refine k _ _ ds (((e.trans e4).trans e5).trans e6) (.tup (.inl (.inl h6)) (dpAll_of ?_ fun j v dd q1 q2 => ?_)) hno emem eln
        · have := Paired.length pr
          rw [List.length_range] at this
          rw [List.length_map, ← this, yl]
        · obtain ⟨n, hn, rfl⟩ := map_at q2
          have hj : j < ds.length := (List.getElem?_eq_some_iff.mp hn).1
          obtain ⟨y, a, n', t, b1, b2, b3⟩ := Paired.get' pr (i := j) (x := j) (by rw [List.getElem?_range (by omega)])
          rw [hn] at b1
          cases b1
          rw [q1] at a
          cases a
          rw [b2]
          exact dp_cell' (.inl (.inl (e6.get b3)))
end


def NmsIn (K : PySem.W.Frag) (H : Hp) (p : Addr) (ns : List (Str × Int)) : Prop := ∃ xs, SeqOf K H p xs ∧ DpAll K H xs (ns.map dName) ∧ (∀ n, n ∈ ns → NmIn n) ∧ (ns.map (·.1)).Nodup ∧ ns.length ≤ 20
def ClsIn (K : PySem.W.Frag) (H : Hp) (p : Addr) (cs : List Cell) : Prop := ∃ xs, SeqOf K H p xs ∧ DpAll K H xs (cs.map dCell) ∧ (∀ c, c ∈ cs → CellIn c) ∧ (cs.map kC).Nodup ∧ cs.length ≤ 60
def spInit (K : PySem.W.Frag) : Sp := fun vs H Q _ => ∃ (p pn pc dx : Addr) (ns : List (Str × Int)) (cs : List Cell), vs = [.ref p, .ref pn, .ref pc] ∧ H p = some (.ins (hC K) dx []) ∧ NmsIn K H pn ns ∧ ClsIn K H pc cs ∧
  ∀ H' ns' cs', ExB p H H' → HeapAt K H' p ns' cs' → (∀ n, n ∈ ns' ↔ n ∈ ns) → (∀ c, c ∈ cs' ↔ c ∈ cs) → Q .non H'
/-- {cell[0]: cell[1:] for cell in cells} -/
theorem cells_tup {K : PySem.W.Frag} {H : Hp} {v : V} {cs : List Cell} (h : Dp K H v (dCells cs)) : ∃ (t : Addr) (xs : List V), v = .ref t ∧ SqT K H t xs ∧ xs.length = cs.length ∧ ∀ (i : Nat) (c : Cell), cs[i]? = some c → ∃ q, xs[i]? = some (V.ref q) ∧ SqT K H q (fullT c) := by
  unfold dCells at h
  cases h with
  | tup hs ha =>
    rename_i xs
    have hl : xs.length = cs.length := by rw [← List.length_map (f := dCell)]; exact L3.DpAll.length ha
    refine ⟨_, _, rfl, hs, hl, fun i c hc => ?_⟩
    obtain ⟨hi, -⟩ := List.getElem?_eq_some_iff.mp hc
    obtain ⟨v, hv⟩ : ∃ v, xs[i]? = some v := ⟨xs[i]'(by omega), List.getElem?_eq_getElem (by omega)⟩
    obtain ⟨d, hd, hdp⟩ := L3.DpAll.get ha hv
    rw [List.getElem?_map, hc] at hd
    cases hd
    obtain ⟨t, rfl, ht⟩ := dp_cell hdp
    exact ⟨t, hv, ht⟩
theorem TRow_d : ∀ (H : Hp) (D : Addr) (kvs kvs' : List (L2.Key × V)) (c : Cell) (v : V), H D = some (.dK kvs) → TRow H c v → TRow (upd H D (.dK kvs')) c v := fun H D kvs kvs' c v hd h => TRow.exB hd ExB.upd h
theorem cut_full (c : Cell) : cutV (fullT c) (some 1) none = rowT c := rfl
section
variable {P : Program} {w : World} {K : PySem.W.Frag} {mg : Str → Option Value} {base : Heap}
theorem i_Heap (T : Tx w K mg) : Mak P w K mg base CX0 4 "Heap" (hC K) ["self", "names", "cells"] (spInit K) := by
  refine mak_mk T.D_Heap_init T.mk_Heap (by obtain ⟨u, h1, h2⟩ := T.c_Heap; cases h2; exact h1) sc_Heap_init (fun _ _ _ _ _ _ us hl => match us, hl with | [_, _, _], _ => rfl) (fun vs H Q E h => ?_) (fun f cdv A outer s H vs Q E hr h => ?_)
  · obtain ⟨p, pn, pc, dx, ns, cs, rfl, _⟩ := h
    rfl
  · obtain ⟨p, pn, pc, dx, ns, cs, rfl, hp, ⟨xs, hsn, hdn, hnok, hnnd, hnl⟩, ⟨ys, hsc, hdc, hcok, hcnd, hcl⟩, k⟩ := h
    refine ⟨_, ((pss_cons (ps_fld (pv 0) (by exact pe_cal (c_heap_names T) hr (by decide) rfl pass0 (pa_cons (pv 1) pa_nil)) rfl)
  (pss_cons (ps_fld (pv 0) (by exact pe_cal (c_heap_cells T) hr (by decide) rfl pass0 (pa_cons (pv 2) pa_nil)) rfl)
  (pss_one (ps_fld (pv 0) (pe_dc (own := [("cell", 3)]) rfl sc_Heap_init.nd (pi_tup (pe_fld (pv 0) rfl)) (blkOk_by (N := ["self", "names", "cells", "cell"]) (sc := defScope s_Heap_init) (by decide +kernel)) (fun _ _ _ _ _ => (pg_name (i := 3) sc_Heap_init.nd rfl (Or.inl rfl))) (fun _ _ _ _ _ => pts_nil) (fun _ _ _ _ _ => (pe_ix (ix_tupK (K := K) rfl) (pv 3) pe_int (fun _ _ => rfl))) (fun _ _ _ _ _ => (pe_slice (sl_tupK (K := K) rfl) (pv 3) (po_some pe_int) po_none))) rfl))))), ?_⟩
    dsimp only [cxOf, Cx.nox]
    repeat walk_at "st"
    refine ⟨pn, xs, ns, rfl, hsn, hdn, hnok, hnnd, hnl, fun H1 tn ns' e1 dn1 no1 mem1 ln1 => ?_⟩
    repeat walk_at "st"
    have hp1 := e1.get hp
    refine k_sfldE hp1 T.cls_Heap T.no_Heap_names (by decide) fun H2 b2 hp2 => ?_
    rw [hf_1] at hp2
    have dn2 := Dp_exB b2 hp1 _ _ dn1
    have sc2 : SeqOf K H2 pc ys := (SeqOf.ex e1 hsc).elim (fun h => .inl (b2.sqL hp1 h)) fun h => .inr (b2.sqT hp1 h)
    have dc2 := DpAll_exB b2 hp1 _ _ (DpAll_ex e1 _ _ hdc)
    repeat walk_at "st"
    refine ⟨pc, ys, cs, rfl, sc2, dc2, hcok, hcnd, hcl, fun H3 tc cs' e3 dc3 co3 mem3 ln3 => ?_⟩
    repeat walk_at "st"
    have hp3 := e3.get hp2
    refine k_sfldE hp3 T.cls_Heap T.no_Heap_cells (show 1 < 1000 by decide) fun H4 b4 hp4 => ?_
    rw [hf_2] at hp4
    have dn4 := Dp_exB b4 hp3 _ _ (Dp_ex e3 _ _ dn2)
    have dc4 := Dp_exB b4 hp3 _ _ dc3
    obtain ⟨_, zs, et, hz, hzl, hzc⟩ := cells_tup dc4
    cases et
    repeat walk_at "st"
    refine k_fldE hp4 T.cls_Heap T.no_Heap_cells (hf2_cells _ _) ?_
    repeat walk_at "st"
    refine dc_rows (walk_tup (xs := zs)) (key := kC) (T := TRow) (rows := cs') hzl.symm co3.nd (by omega) TRow_ex TRow_d (fun H' e => e.sqT hz) (fun i x H' H'' c R1 R0 hc e y k1 => ?_) (fun D H' kvs hD e hk hr => ?_)
    · obtain ⟨rfl, y⟩ := y
      obtain ⟨q, hq, hsq⟩ := hzc i c hc
      rw [hq] at y
      cases y
      refine ⟨rfl, ?_⟩
      have hsq' := e.sqT hsq
      unfold fullT at hsq'
      repeat walk_at "st"
      refine k_slTA hsq' (show ¬ (HT.sIx 4 0 (some 1) = 0 ∧ HT.sIx 4 4 none = 4) by decide) fun l H5 hl5 e5 h5 => ?_
      exact k1 _ _ e5 ⟨l, rfl, h5⟩
    · repeat walk_at "st"
      have hp5 := e.get hp4
      refine k_sfldE hp5 T.cls_Heap T.no_Heap__rows (show 2 < 1000 by decide) fun H6 b6 hp6 => ?_
      rw [hf_3] at hp6
      repeat walk_at "st"
      refine k _ ns' cs' ?_ ⟨dx, tn, tc, D, kvs, hp6, Dp_exB b6 hp5 _ _ (Dp_ex e _ _ dn4), Dp_exB b6 hp5 _ _ (Dp_ex e _ _ dc4), b6 _ _ (ne_of hk hp5 (fun z => nomatch z)) hk, hr.mono fun c v ⟨t, h1, h2⟩ => ⟨t, h1, b6 _ _ (ne_of h2 hp5 (fun z => nomatch z)) h2⟩, by omega, by omega, co3, no1, fun n hn => (hnok n ((mem1 n).mp hn)).2.2.2.2, fun c hc => ⟨(hcok c ((mem3 c).mp hc)).2.2.2.2, by have := (hcok c ((mem3 c).mp hc)).1; omega⟩⟩ mem1 mem3
      exact (ExB.of e1).trans (b2.trans ((ExB.of e3).trans (b4.trans ((ExB.of e).trans b6))))
end


theorem dataLt_head {x y : PyData} (h : alike x y = true) (e : PyData.eqv x y = false) (xs ys : List PyData) : dataLt (.tuple (x :: xs)) (.tuple (y :: ys)) = dataLt x y := by
  rw [dataLt_tuple, dataLt_cons h, e, if_neg Bool.false_ne_true]
theorem sort_names {ns : List (Str × Int)} (h : NmOk ns) : (ns.map dName).mergeSort (dataLe false id) = ns.map dName := by
  refine List.mergeSort_of_pairwise ?_
  rw [List.pairwise_map]
  refine h.imp fun {a b} h => ?_
  show (!dataLt (dName b) (dName a)) = true
  unfold dName
  have e : PyData.eqv (.str b.1) (.str a.1) = false := by
    simp only [PyData.eqv, beq_eq_false_iff_ne]
    intro z
    rw [z] at h
    exact str_lt_irrefl _ h
  rw [dataLt_head (by simp [alike]) e, dataLt_str, decide_eq_false (List.lt_asymm h)]
  rfl
theorem sort_cells {cs : List Cell} (h : CsOk cs) : (cs.map dCell).mergeSort (dataLe false id) = cs.map dCell := by
  refine List.mergeSort_of_pairwise ?_
  rw [List.pairwise_map]
  refine h.imp fun {a b} h => ?_
  show (!dataLt (dCell b) (dCell a)) = true
  unfold dCell
  have e : PyData.eqv (.int b.a) (.int a.a) = false := by
    simp only [PyData.eqv, beq_eq_false_iff_ne]
    omega
  rw [dataLt_head (by simp [alike]) e, dataLt_int, decide_eq_false (by omega)]
  rfl
theorem so_names {ns : List (Str × Int)} (h : ns.length ≤ 1000) : SortOk (ns.map dName) := by
  refine ⟨?_, .inl ?_, ?_, by rw [List.length_map]; exact h⟩
  · intro d hd e he
    obtain ⟨a, _, rfl⟩ := List.mem_map.mp hd
    obtain ⟨b, _, rfl⟩ := List.mem_map.mp he
    simp [dName, alike, alikeAll]
  · intro d hd
    obtain ⟨a, _, rfl⟩ := List.mem_map.mp hd
    exact ⟨_, _, rfl⟩
  · intro d hd
    obtain ⟨a, _, rfl⟩ := List.mem_map.mp hd
    simp [dName, PyData.depth, PyData.depthAll]
theorem so_cells {cs : List Cell} (h : cs.length ≤ 1000) : SortOk (cs.map dCell) := by
  refine ⟨?_, .inl ?_, ?_, by rw [List.length_map]; exact h⟩
  · intro d hd e he
    obtain ⟨a, _, rfl⟩ := List.mem_map.mp hd
    obtain ⟨b, _, rfl⟩ := List.mem_map.mp he
    simp [dCell, alike, alikeAll]
  · intro d hd
    obtain ⟨a, _, rfl⟩ := List.mem_map.mp hd
    exact ⟨_, _, rfl⟩
  · intro d hd
    obtain ⟨a, _, rfl⟩ := List.mem_map.mp hd
    simp [dCell, PyData.depth, PyData.depthAll]
theorem k_sortD {K : PySem.W.Frag} {H : Hp} {Q : VK} {p : Addr} {vs : List V} {ds : List PyData} (h : SeqOf K H p vs) (hd : DpAll K H vs ds) (so : SortOk ds) {es : List PyData} (e : ds.mergeSort (dataLe false id) = es) (q : ∀ l H1 vs', H l = none → Ex H H1 → H1 l = some (.lst vs') → DpAll K H1 vs' es → Q (.ref l) H1) : rSortD K [.ref p] H Q :=
  ⟨p, vs, ds, rfl, h, hd, so, fun l vs' n a => q l _ vs' n (Ex.new n) upd_same (DpAll_ex (Ex.new n) _ _ (by rw [e] at a; exact a))⟩
/-- a heap whose rows stand in a dict that is new since H0 -/
def HeapNew (K : PySem.W.Frag) (H0 H : Hp) (p : Addr) (ns : List (Str × Int)) (cs : List Cell) : Prop := ∃ dx tn tc d kvs, HeapA K H p ns cs dx tn tc d kvs ∧ H0 d = none
theorem HeapNew.at {K : PySem.W.Frag} {H0 H : Hp} {p : Addr} {ns : List (Str × Int)} {cs : List Cell} (h : HeapNew K H0 H p ns cs) : HeapAt K H p ns cs := let ⟨dx, tn, tc, d, kvs, h, _⟩ := h; ⟨dx, tn, tc, d, kvs, h⟩
theorem HeapNew.older {K : PySem.W.Frag} {H1 H0 H : Hp} {p : Addr} {ns : List (Str × Int)} {cs : List Cell} (e : Ex H1 H0) (h : HeapNew K H0 H p ns cs) : HeapNew K H1 H p ns cs := let ⟨dx, tn, tc, d, kvs, h, n⟩ := h; ⟨dx, tn, tc, d, kvs, h, e.none n⟩
def spFrom (K : PySem.W.Frag) : Sp := fun vs H Q _ => ∃ (pn pc : Addr) (xs ys : List V) (ms ns : List (Str × Int)) (cs : List Cell), vs = [.ref pn, .ref pc] ∧ SeqOf K H pn xs ∧ DpAll K H xs (ms.map dName) ∧ ms.length ≤ 20 ∧ (ms.map dName).mergeSort (dataLe false id) = ns.map dName ∧ NmOk ns ∧ ns.length ≤ 20 ∧ SeqOf K H pc ys ∧ DpAll K H ys (cs.map dCell) ∧ CsOk cs ∧ cs.length ≤ 60 ∧ (∀ n, n ∈ ns → PyData.strOk n.1 = true) ∧ (∀ c, c ∈ cs → PyData.strOk c.m = true ∧ c.a.natAbs ≤ 9999) ∧
  ∀ H' p, Ex H H' → HeapNew K H H' p ns cs → Q (.ref p) H'
section
variable {P : Program} {w : World} {K : PySem.W.Frag} {mg : Str → Option Value} {base : Heap}
theorem m_Heap (T : Tx w K mg) : Mak P w K mg base CX0 4 "Heap" (hC K) ["self", "names", "cells"] (spInit K) := i_Heap T
theorem c_heap_from (T : Tx w K mg) : Cal P w K mg base CX0 6 "heap_from" ["names", "cells"] (spFrom K) := by
  refine cal_mk T.D_heap_from T.m_heap_from sc_heap_from (fun _ _ _ _ _ _ us hl => match us, hl with | [_, _], _ => rfl) (fun vs H Q E h => ?_) (fun f cdv A outer s H vs Q E hr h => ?_)
  · obtain ⟨pn, pc, xs, ys, ms, ns, cs, rfl, _⟩ := h
    rfl
  · obtain ⟨pn, pc, xs, ys, ms, ns, cs, rfl, hsn, hdn, hml, hms, hno, hnl, hsc, hdc, hco, hcl, sn, sc, k⟩ := h
    refine ⟨_, ((pss_cons (ps_set (i := 2) sc_heap_from.nd rfl (Or.inl rfl) (by exact pe_mak (m_Heap T) hr (by decide) rfl pass0 (pa_cons (pe_tup pa_nil) (pa_cons (pe_tup pa_nil) pa_nil))))
  (pss_cons (ps_fld (pv 2) (pe_callTy cr_tupOf rfl T.f_tuple (by decide +kernel) (pa_cons (pe_callB (cr_sortD (hu64 hr)) rfl T.f_sorted (by decide +kernel) (pa_cons (pv 0) pa_nil)) pa_nil)) rfl)
  (pss_cons (ps_fld (pv 2) (pe_callTy cr_tupOf rfl T.f_tuple (by decide +kernel) (pa_cons (pe_callB (cr_sortD (hu64 hr)) rfl T.f_sorted (by decide +kernel) (pa_cons (pv 1) pa_nil)) pa_nil)) rfl)
  (pss_cons (ps_fld (pv 2) (pe_dc (own := [("cell", 3)]) rfl sc_heap_from.nd (pi_tup (pe_fld (pv 2) rfl)) (blkOk_by (N := ["names", "cells", "heap", "cell"]) (sc := defScope s_heap_from) (by decide +kernel)) (fun _ _ _ _ _ => (pg_name (i := 3) sc_heap_from.nd rfl (Or.inl rfl))) (fun _ _ _ _ _ => pts_nil) (fun _ _ _ _ _ => (pe_ix (ix_tupK (K := K) rfl) (pv 3) pe_int (fun _ _ => rfl))) (fun _ _ _ _ _ => (pe_slice (sl_tupK (K := K) rfl) (pv 3) (po_some pe_int) po_none))) rfl)
  (pss_one (ps_ret (pv 2)))))))), ?_⟩
    dsimp only [cxOf, Cx.nox]
    repeat walk_at "st"
    intro t1 H1 ht1 e1 h1
    repeat walk_at "st"
    intro t2 H2 ht2 e2 h2
    repeat walk_at "st"
    refine MakeK.of fun p H3 dx hp0 eP hpP => ?_
    have np : H p = none := (e1.trans e2).none hp0
    refine ⟨p, t1, t2, dx, [], [], rfl, hpP, ⟨[], .inr (.inl (.inl ((e2.trans eP).get h1))), .nil, (fun _ h => nomatch h), by simp, by simp⟩, ⟨[], .inr (.inl (.inl (eP.get h2))), .nil, (fun _ h => nomatch h), by simp, by simp⟩, fun H4 ns0 cs0 b4 hA mn mc => ?_⟩
    refine ⟨rfl, ?_⟩
    obtain ⟨dx, tn, tc, d, kvs, hA⟩ := hA
    have e4 : Ex H H4 := ExB.old ((e1.trans e2).trans eP) np b4
    repeat walk_at "st"
    refine k_sortD (SeqOf.ex e4 hsn) (DpAll_ex e4 _ _ hdn) (so_names (by omega)) hms fun l5 H5 vs5 hl5 e5 h5 d5 => ?_
    repeat walk_at "st"
    refine k_tupL (.inl (.inl h5)) fun l6 H6 hl6 e6 h6 => ?_
    repeat walk_at "st"
    have i6 := (e5.trans e6).get hA.ins
    refine k_sfldE i6 T.cls_Heap T.no_Heap_names (show 3 < 1000 by decide) fun H7 b7 i7 => ?_
    rw [hf_n] at i7
    have e7 : Ex H H7 := ExB.old (e4.trans (e5.trans e6)) np b7
    have dn7 : Dp K H7 (.ref l6) (dNames ns) := Dp_exB b7 i6 _ _ (.tup (.inl (.inl h6)) (DpAll_ex e6 _ _ d5))
    repeat walk_at "st"
    refine k_sortD (SeqOf.ex e7 hsc) (DpAll_ex e7 _ _ hdc) (so_cells (by omega)) (sort_cells hco) fun l8 H8 vs8 hl8 e8 h8 d8 => ?_
    repeat walk_at "st"
    refine k_tupL (.inl (.inl h8)) fun l9 H9 hl9 e9 h9 => ?_
    repeat walk_at "st"
    have i9 := (e8.trans e9).get i7
    refine k_sfldE i9 T.cls_Heap T.no_Heap_cells (show 3 < 1000 by decide) fun H10 b10 i10 => ?_
    rw [hf_c] at i10
    have e10 : Ex H H10 := ExB.old (e7.trans (e8.trans e9)) np b10
    have dn10 := Dp_exB b10 i9 _ _ (Dp_ex (e8.trans e9) _ _ dn7)
    have dc10 : Dp K H10 (.ref l9) (dCells cs) := Dp_exB b10 i9 _ _ (.tup (.inl (.inl h9)) (DpAll_ex e9 _ _ d8))
    obtain ⟨_, zs, et, hz, hzl, hzc⟩ := cells_tup dc10
    cases et
    repeat walk_at "st"
    refine k_fldE i10 T.cls_Heap T.no_Heap_cells (hf_cells _ _ _) ?_
    repeat walk_at "st"
    refine dc_rows (walk_tup (xs := zs)) (key := kC) (T := TRow) (rows := cs) hzl.symm hco.nd (by omega) TRow_ex TRow_d (fun H' e => e.sqT hz) (fun i x H' H'' c R1 R0 hc e y k1 => ?_) (fun D H' kvs hD e hk hr => ?_)
    · obtain ⟨rfl, y⟩ := y
      obtain ⟨q, hq, hsq⟩ := hzc i c hc
      rw [hq] at y
      cases y
      refine ⟨rfl, ?_⟩
      have hsq' := e.sqT hsq
      unfold fullT at hsq'
      repeat walk_at "st"
      refine k_slTA hsq' (show ¬ (HT.sIx 4 0 (some 1) = 0 ∧ HT.sIx 4 4 none = 4) by decide) fun l H5 hl5 e5 h5 => ?_
      exact k1 _ _ e5 ⟨l, rfl, h5⟩
    · repeat walk_at "st"
      have i11 := e.get i10
      refine k_sfldE i11 T.cls_Heap T.no_Heap__rows (show 3 < 1000 by decide) fun H12 b12 i12 => ?_
      rw [hf_r] at i12
      repeat walk_at "st"
      refine k _ _ (ExB.old (e10.trans e) np b12) ⟨dx, _, _, D, kvs, ⟨i12, Dp_exB b12 i11 _ _ (Dp_ex e _ _ dn10), Dp_exB b12 i11 _ _ (Dp_ex e _ _ dc10), b12 _ _ (ne_of hk i11 (fun z => nomatch z)) hk, hr.mono fun c v ⟨t, h1, h2⟩ => ⟨t, h1, b12 _ _ (ne_of h2 i11 (fun z => nomatch z)) h2⟩, hcl, hnl, hco, hno, sn, sc⟩, e10.none hD⟩
end


/-! ### what is raised -/
structure Ty (P : Program) (w : World) (K : PySem.W.Frag) (mg : Str → Option Value) : Prop where
  T : Tx w K mg
  badN : PySem.SupN.SupTxt P K mg (He.ga K "BadName") "BadName" "not a name: "
  noN : PySem.SupN.SupTxt P K mg (He.ga K "NoName") "NoName" "name is missing: "
  badH : PySem.SupT.SupTxt3 P K mg (He.ga K "BadHeap") "BadHeap"
  kh : PySem.W.kitOne K (.ref (He.ga K "Heap")) (.ref (He.ga K "Heap")) = some true
  tyH : PySem.W.findIn K (.ref (He.ga K "Heap")) "__class__" = some (some (.builtin "object.__class__")) ∧ PySem.W.specialIn K (.builtin "object.__class__") "__get__" = some (some (.builtin "getset_descriptor.__get__")) ∧ PySem.W.takesIn K (.builtin "object.__class__") = some true ∧ PySem.W.mroIn K (He.ga K "Heap") (.type "object") = some true
  siz : ∃ p g, PropOf K (He.ga K "Heap") "size" p g ∧ ∃ fd, FunD K "size" "Heap.size" (defArgs s_Heap_size) (defBody s_Heap_size) (defScope s_Heap_size) [] [] g fd
  sf : PySem.W.selfFirst K (He.ga K "Heap") = true
theorem Ty.tyx {P : Program} {w : World} {K : PySem.W.Frag} {mg : Str → Option Value} (Y : Ty P w K mg) {H : Hp} {a dx : Addr} {fs : List (Str × V)} (h : H a = some (.ins (He.ga K "Heap") dx fs)) : TyX K H (.ref a) (.ref (He.ga K "Heap")) :=
  .base (.ins h Y.T.cls_Heap Y.tyH.1 Y.tyH.2.1 Y.tyH.2.2.1 Y.tyH.2.2.2)
theorem pmk_BadName {X : Cx} {a : Expr} {ta : TA} {p pos : Pos} {k : Nat} (Y : Ty X.prog X.w X.K X.mg) (hr : Room k X.A) (hg : Gl X "BadName") (ha : PA X [a] ta) (he : starEach [a] X.env = (false, eval a X.env) :: starEach [] X.env := by rfl) (hpl : (backTo pos (starEach [] X.env)).any (·.1) = false := by rfl) :
    L2N.PMk X (.Call (.Name "BadName" p) [a] [] pos) (tMkSupN (He.ga X.K "BadName") ta) := pmk_supN Y.badN (by decide +kernel) hr ha hg (by decide) he hpl
theorem pmk_NoName {X : Cx} {a : Expr} {ta : TA} {p pos : Pos} {k : Nat} (Y : Ty X.prog X.w X.K X.mg) (hr : Room k X.A) (hg : Gl X "NoName") (ha : PA X [a] ta) (he : starEach [a] X.env = (false, eval a X.env) :: starEach [] X.env := by rfl) (hpl : (backTo pos (starEach [] X.env)).any (·.1) = false := by rfl) :
    L2N.PMk X (.Call (.Name "NoName" p) [a] [] pos) (tMkSupN (He.ga X.K "NoName") ta) := pmk_supN Y.noN (by decide +kernel) hr ha hg (by decide) he hpl
theorem pmk_BadHeap {X : Cx} {a b c : Expr} {ta : TA} {p pos : Pos} {k : Nat} (Y : Ty X.prog X.w X.K X.mg) (hr : Room k X.A) (hg : Gl X "BadHeap") (ha : PA X [a, b, c] ta) (he : starEach [a, b, c] X.env = (false, eval a X.env) :: starEach [b, c] X.env := by rfl) (hpl : (backTo pos (starEach [b, c] X.env)).any (·.1) = false := by rfl) :
    L2N.PMk X (.Call (.Name "BadHeap" p) [a, b, c] [] pos) (tMkSup3 (He.ga X.K "BadHeap") ta) := pmk_sup3 Y.badH hr ha hg (by decide) he hpl
abbrev eBadN (K : PySem.W.Frag) : Value := .ref (He.ga K "BadName")
abbrev eNoN (K : PySem.W.Frag) : Value := .ref (He.ga K "NoName")
abbrev eBadH (K : PySem.W.Frag) : Value := .ref (He.ga K "BadHeap")
/-! ### data of names, cells compared -/
theorem eqv_names (ns ms : List (Str × Int)) : PyData.eqv (dNames ns) (dNames ms) = decide (ns = ms) := by
  have h : ∀ (ns ms : List (Str × Int)), PyData.eqvAll (ns.map dName) (ms.map dName) = decide (ns = ms) := by
    intro ns
    induction ns with
    | nil => intro ms; cases ms <;> simp [PyData.eqvAll]
    | cons n ns ih =>
      intro ms
      cases ms with
      | nil => simp [PyData.eqvAll]
      | cons m ms =>
        rw [List.map_cons, List.map_cons, PyData.eqvAll, ih]
        obtain ⟨a, b⟩ := n
        obtain ⟨c, d⟩ := m
        by_cases h1 : a = c <;> by_cases h2 : b = d <;> by_cases h3 : ns = ms <;> simp [dName, PyData.eqv, PyData.eqvAll, h1, h2, h3]
  unfold dNames
  rw [PyData.eqv, h]
theorem eqv_cells (cs ds : List Cell) : PyData.eqv (dCells cs) (dCells ds) = decide (cs = ds) := by
  have h : ∀ (cs ds : List Cell), PyData.eqvAll (cs.map dCell) (ds.map dCell) = decide (cs = ds) := by
    intro cs
    induction cs with
    | nil => intro ds; cases ds <;> simp [PyData.eqvAll]
    | cons n ns ih =>
      intro ms
      cases ms with
      | nil => simp [PyData.eqvAll]
      | cons m ms =>
        rw [List.map_cons, List.map_cons, PyData.eqvAll, ih]
        obtain ⟨a, b, c, d⟩ := n
        obtain ⟨a', b', c', d'⟩ := m
        by_cases h1 : a = a' <;> by_cases h2 : b = b' <;> by_cases h3 : c = c' <;> by_cases h4 : d = d' <;> by_cases h5 : ns = ms <;> simp [dCell, PyData.eqv, PyData.eqvAll, h1, h2, h3, h4, h5]
  unfold dCells
  rw [PyData.eqv, h]
theorem lay_names (ns : List (Str × Int)) (so : ∀ n, n ∈ ns → PyData.strOk n.1 = true) : SeqAt.shaped (dNames ns) = true := by
  have h1 : PyData.canLayAll0 (ns.map dName) = true := by
    induction ns with
    | nil => simp [PyData.canLayAll0]
    | cons n ns ih => simp [PyData.canLayAll0, dName, PyData.canLay0, ih fun m hm => so m (List.mem_cons_of_mem _ hm), so n (List.mem_cons_self ..)]
  have h2 : PyData.depthAll (ns.map dName) ≤ 1 := by
    clear h1 so
    induction ns with
    | nil => simp [PyData.depthAll]
    | cons n ns ih =>
      simp only [List.map_cons, PyData.depthAll]
      have : (dName n).depth ≤ 1 := by simp [dName, PyData.depth, PyData.depthAll]
      omega
  unfold SeqAt.shaped dNames
  have h3 : (PyData.tuple (ns.map dName)).depth ≤ 64 := by
    rw [PyData.depth]
    omega
  have h4 : (PyData.tuple (ns.map dName)).canLay0 = true := by
    rw [PyData.canLay0]
    exact h1
  rw [h4, decide_eq_true h3]
  rfl
theorem lay_cells (ns : List Cell) (so : ∀ c, c ∈ ns → PyData.strOk c.m = true) : SeqAt.shaped (dCells ns) = true := by
  have h1 : PyData.canLayAll0 (ns.map dCell) = true := by
    induction ns with
    | nil => simp [PyData.canLayAll0]
    | cons n ns ih => simp [PyData.canLayAll0, dCell, PyData.canLay0, ih fun m hm => so m (List.mem_cons_of_mem _ hm), so n (List.mem_cons_self ..)]
  have h2 : PyData.depthAll (ns.map dCell) ≤ 1 := by
    clear h1 so
    induction ns with
    | nil => simp [PyData.depthAll]
    | cons n ns ih =>
      simp only [List.map_cons, PyData.depthAll]
      have : (dCell n).depth ≤ 1 := by simp [dCell, PyData.depth, PyData.depthAll]
      omega
  unfold SeqAt.shaped dCells
  have h3 : (PyData.tuple (ns.map dCell)).depth ≤ 64 := by
    rw [PyData.depth]
    omega
  have h4 : (PyData.tuple (ns.map dCell)).canLay0 = true := by
    rw [PyData.canLay0]
    exact h1
  rw [h4, decide_eq_true h3]
  rfl
theorem k_neN {K : PySem.W.Frag} {H : Hp} {Q : VK} {x y : V} {ns ms : List (Str × Int)} (h1 : Dp K H x (dNames ns)) (h2 : Dp K H y (dNames ms)) (s1 : ∀ n, n ∈ ns → PyData.strOk n.1 = true) (s2 : ∀ n, n ∈ ms → PyData.strOk n.1 = true) (q : Q (.bl (!decide (ns = ms))) H) : rNeD K x y H Q :=
  ⟨_, _, h1, h2, lay_names ns s1, lay_names ms s2, by rw [eqv_names]; exact q⟩
theorem k_eqN {K : PySem.W.Frag} {H : Hp} {Q : VK} {x y : V} {ns ms : List (Str × Int)} (h1 : Dp K H x (dNames ns)) (h2 : Dp K H y (dNames ms)) (s1 : ∀ n, n ∈ ns → PyData.strOk n.1 = true) (s2 : ∀ n, n ∈ ms → PyData.strOk n.1 = true) (q : Q (.bl (decide (ns = ms))) H) : rEqD K x y H Q :=
  ⟨_, _, h1, h2, lay_names ns s1, lay_names ms s2, by rw [eqv_names]; exact q⟩
theorem k_eqC {K : PySem.W.Frag} {H : Hp} {Q : VK} {x y : V} {ns ms : List Cell} (h1 : Dp K H x (dCells ns)) (h2 : Dp K H y (dCells ms)) (s1 : ∀ n, n ∈ ns → PyData.strOk n.m = true) (s2 : ∀ n, n ∈ ms → PyData.strOk n.m = true) (q : Q (.bl (decide (ns = ms))) H) : rEqD K x y H Q :=
  ⟨_, _, h1, h2, lay_cells ns s1, lay_cells ms s2, by rw [eqv_cells]; exact q⟩


def spPool (K : PySem.W.Frag) : Sp := fun vs H Q _ => ∃ (a : Addr) (xs : List Int), vs = [.ref a] ∧ SqL K H a (xs.map V.int) ∧ ∀ p H', Ex H H' → H p = none → Pool H' p → Q (.ref p) H'
def Digs (n : Nat) (ds : List Int) : Prop := ds.length ≤ n ∧ ∀ d ∈ ds, 0 ≤ d ∧ d < 60
theorem Digs.snoc {n : Nat} {ds : List Int} (h : Digs n ds) {d : Int} (h0 : 0 ≤ d) (h1 : d < 60) : Digs (n + 1) (ds ++ [d]) := by
  refine ⟨by rw [List.length_append]; simp; exact h.1, fun e he => ?_⟩
  rcases List.mem_append.mp he with z | z
  · exact h.2 e z
  · have : e = d := by simpa using z
    rw [this]; exact ⟨h0, h1⟩
theorem Digs.mono {n m : Nat} {ds : List Int} (h : Digs n ds) (hm : n ≤ m) : Digs m ds := ⟨Nat.le_trans h.1 hm, h.2⟩
def PoolI (a p : Addr) (H2 : Hp) (i : Nat) (σ : L2.St) (H' : Hp) : Prop := ∃ (v2 v3 v4 : Option V) (ds : List Int), σ = [some (.ref a), some (.ref p), v2, v3, v4] ∧ ExB p H2 H' ∧ H' p = some (.lst (((0 : Int) :: ds).map V.int)) ∧ Digs (12 * i) ds
def PoolJ (a p : Addr) (H2 : Hp) (v2 : Option V) (i j : Nat) (σ : L2.St) (H' : Hp) : Prop := ∃ (sz : Int) (v4 : Option V) (ds : List Int), σ = [some (.ref a), some (.ref p), v2, some (.int sz), v4] ∧ 0 ≤ sz ∧ ExB p H2 H' ∧ H' p = some (.lst (((0 : Int) :: ds).map V.int)) ∧ Digs (12 * i + j) ds
section
variable {P : Program} {w : World} {K : PySem.W.Frag} {mg : Str → Option Value} {base : Heap}
theorem c_l_pool (T : Tx w K mg) : Cal P w K mg base CX0 1 "_law_pool" ["script"] (spPool K) := by
  refine cal_mk T.D_l_pool T.m__law_pool sc_l_pool (fun _ _ _ _ _ _ us hl => match us, hl with | [_], _ => rfl) (fun vs H Q E h => ?_) (fun f cdv A outer s H vs Q E hr h => ?_)
  · obtain ⟨a, xs, rfl, _⟩ := h
    rfl
  · obtain ⟨a, xs, rfl, hs, k⟩ := h
    refine ⟨_, ((pss_cons (ps_set (i := 1) sc_l_pool.nd rfl (Or.inl rfl) (pe_lst (pa_cons pe_int pa_nil)))
  (pss_cons (ps_for PassesOwn.never rfl (pi_list (pe_slice sl_list (pv 0) po_none (po_some pe_int))) (pg_name (i := 2) sc_l_pool.nd rfl (Or.inl rfl)) (pss_cons (ps_set (i := 3) sc_l_pool.nd rfl (Or.inl rfl) (pe_callTy cr_int rfl T.f_int (by decide +kernel) (pa_cons (pe_callB cr_abs rfl T.f_abs (by decide +kernel) (pa_cons (pv 2) pa_nil)) pa_nil)))
  (pss_cons (ps_if (pt_cmpR o_gt (pv 3) (pe_op o_pow pe_int pe_int) (nomark _)) (pss_one (ps_set (i := 3) sc_l_pool.nd rfl (Or.inl rfl) (pe_op o_add (pe_op o_pow pe_int pe_int) (pe_op o_mod (pe_callTy cr_int rfl T.f_int (by decide +kernel) (pa_cons (pv 3) pa_nil)) (pe_op o_pow pe_int pe_int))))) pss_nil)
  (pss_one (ps_for PassesOwn.never rfl (pi_range1 rfl T.f_range (pa_cons pe_int pa_nil)) (pg_name (i := 4) sc_l_pool.nd rfl (Or.inl rfl)) (pss_cons (ps_expr (pe_bm PySem.F.plainAttrs_list PySem.F.slot_list_append PySem.F.type_list_append mt_append (pv 1) (pa_cons (pe_op o_mod (pe_callTy cr_int rfl T.f_int (by decide +kernel) (pa_cons (pv 3) pa_nil)) pe_int) pa_nil)))
  (pss_cons (ps_set (i := 3) sc_l_pool.nd rfl (Or.inl rfl) (pe_op o_fdiv (pv 3) pe_int))
  (pss_one (ps_if (pt_cmpR op_eq (pv 3) pe_int (nomark _)) (pss_one ps_break) pss_nil)))))))))
  (pss_one (ps_ret (pv 1)))))), ?_⟩
    dsimp only [cxOf, Cx.nox]
    repeat walk_at "st"
    intro p H1 hp e1 h1
    repeat walk_at "st"
    refine k_slL (e1.sqL hs) fun l H2 hl e2 h2 => ?_
    repeat walk_at "st"
    have e02 : Ex H H2 := e1.trans e2
    have hcut : ∃ ys : List Int, cutV (xs.map V.int) none (some 63) = ys.map V.int ∧ ys.length ≤ 63 := by
      refine ⟨(xs.drop (HT.sIx (xs.map V.int).length 0 none)).take (HT.sIx (xs.map V.int).length (xs.map V.int).length (some 63) - HT.sIx (xs.map V.int).length 0 none), ?_, ?_⟩
      · unfold cutV
        rw [List.map_take, List.map_drop]
      · rw [List.length_take]
        have : HT.sIx (xs.map V.int).length (xs.map V.int).length (some 63) ≤ 63 := by
          unfold HT.sIx
          simp
          omega
        omega
    obtain ⟨ys, ey, ly⟩ := hcut
    rw [ey] at h2
    have npl : l ≠ p := fun z => by
      rw [z, h1] at hl
      cases hl
    refine for_it (walk_list (xs := ys.map V.int)) (PoolI a p H2) ⟨none, none, none, [], rfl, ExB.of (Ex.refl _), e2.get h1, by simp [Digs]⟩ (fun i σ' H' _ ⟨_, _, _, _, _, b, _⟩ => .inl (.inl (b _ _ npl h2))) (fun i x σ' H' H'' hi ⟨v2, v3, v4, ds, es, b, hL, hd⟩ y => ?_) (fun σ' H' ⟨v2, v3, v4, ds, es, b, hL, hd⟩ => ?_)
    · subst es
      obtain ⟨rfl, y⟩ := y
      rw [List.length_map] at hi
      obtain ⟨c, hc⟩ : ∃ c, ys[i]? = some c := ⟨ys[i]'hi, List.getElem?_eq_getElem hi⟩
      rw [List.getElem?_map, hc] at y
      cases y
      repeat walk_at "st"
      refine k_pow ⟨by decide, by decide, by decide⟩ ?_
      have hc0 : 0 ≤ (if c < 0 then -c else c) := by split <;> omega
      have hp60 : (0 : Int) < 60 ^ (12 : Int).toNat := by decide
      generalize (if c < 0 then -c else c) = sz0 at hc0
      have hi63 : i < 63 := by omega
      repeat walk_at "st"
      split
      · repeat walk_at "st"
        refine k_pow ⟨by decide, by decide, by decide⟩ ?_
        repeat walk_at "st"
        refine k_pow ⟨by decide, by decide, by decide⟩ ?_
        repeat walk_at "st"
        refine for_range (lo := 0) (PoolJ a p H2 (some (.int c)) i) ⟨_, _, ds, rfl, Int.add_nonneg (Int.le_of_lt hp60) (Int.emod_nonneg _ (by omega)), b, hL, hd⟩ (fun j σ' H3 hj ⟨sz, v4, ds, es, h0, b, hL, hd⟩ => ?_) (fun σ' H3 ⟨sz, v4, ds, es, h0, b, hL, hd⟩ => ?_)
        · subst es
          have hln := hd.1
          repeat walk_at "st"
          intro H4 b4 h4
          repeat walk_at "st"
          refine k_div ⟨by decide, by decide⟩ ?_
          repeat walk_at "st"
          have e4 : (0 :: ds).map V.int ++ [V.int (sz % 60)] = ((0 : Int) :: (ds ++ [sz % 60])).map V.int := by
            rw [List.map_cons, List.map_cons, List.map_append]
            rfl
          rw [e4] at h4
          have d4 : Digs (12 * i + j + 1) (ds ++ [sz % 60]) := hd.snoc (Int.emod_nonneg _ (by decide)) (Int.emod_lt_of_pos _ (by decide))
          have hq0 : 0 ≤ sz / 60 := Int.ediv_nonneg h0 (by decide)
          split
          · refine k_brk ?_
            exact ⟨_, _, _, _, rfl, b.trans b4, h4, d4.mono (by omega)⟩
          · repeat walk_at "st"
            exact ⟨_, _, _, rfl, hq0, b.trans b4, h4, d4⟩
        · exact ⟨_, _, _, ds, es, b, hL, hd.mono (by omega)⟩
      · repeat walk_at "st"
        refine for_range (lo := 0) (PoolJ a p H2 (some (.int c)) i) ⟨_, _, ds, rfl, hc0, b, hL, hd⟩ (fun j σ' H3 hj ⟨sz, v4, ds, es, h0, b, hL, hd⟩ => ?_) (fun σ' H3 ⟨sz, v4, ds, es, h0, b, hL, hd⟩ => ?_)
        · subst es
          have hln := hd.1
          repeat walk_at "st"
          intro H4 b4 h4
          repeat walk_at "st"
          refine k_div ⟨by decide, by decide⟩ ?_
          repeat walk_at "st"
          have e4 : (0 :: ds).map V.int ++ [V.int (sz % 60)] = ((0 : Int) :: (ds ++ [sz % 60])).map V.int := by
            rw [List.map_cons, List.map_cons, List.map_append]
            rfl
          rw [e4] at h4
          have d4 : Digs (12 * i + j + 1) (ds ++ [sz % 60]) := hd.snoc (Int.emod_nonneg _ (by decide)) (Int.emod_lt_of_pos _ (by decide))
          have hq0 : 0 ≤ sz / 60 := Int.ediv_nonneg h0 (by decide)
          split
          · refine k_brk ?_
            exact ⟨_, _, _, _, rfl, b.trans b4, h4, d4.mono (by omega)⟩
          · repeat walk_at "st"
            exact ⟨_, _, _, rfl, hq0, b.trans b4, h4, d4⟩
        · exact ⟨_, _, _, ds, es, b, hL, hd.mono (by omega)⟩
    · subst es
      repeat walk_at "st"
      refine k p H' (ExB.old e02 hp b) hp ⟨_, hL, 0, ds, rfl, by decide, ?_, hd.2⟩
      have := hd.1
      rw [List.length_map] at this
      omega
end


/-! ### of cells; calls whose exceptions a suite takes -/
theorem TFull.exT {H H' : Hp} {c : Cell} {v : V} (e : ExT H H') (h : TFull H c v) : TFull H' c v := let ⟨t, h1, h2⟩ := h; ⟨t, h1, e _ _ (fun _ z => nomatch z) h2⟩
theorem TRow.exT {H H' : Hp} {c : Cell} {v : V} (e : ExT H H') (h : TRow H c v) : TRow H' c v := let ⟨t, h1, h2⟩ := h; ⟨t, h1, e _ _ (fun _ z => nomatch z) h2⟩
theorem dp_cells {K : PySem.W.Frag} {H : Hp} {cs : List Cell} {vs : List V} (p : Paired (fun c v => TFull H c v) cs vs) : DpAll K H vs (cs.map dCell) := by
  induction p with
  | nil => exact .nil
  | cons h _ ih =>
    obtain ⟨t, rfl, ht⟩ := h
    exact .cons (dp_cell' (.inl (.inl ht))) ih
theorem cell_key {cs : List Cell} {a : Int} {c : Cell} (h : cellOf cs a = some c) : c ∈ cs ∧ c.a = a := let ⟨h1, h2⟩ := rowAt_some h; ⟨h1, Sum.inl.inj h2⟩
theorem cell_mem {cs : List Cell} (co : CsOk cs) {c : Cell} (h : c ∈ cs) : cellOf cs c.a = some c := rowAt_mem co.nd h
theorem cell_none {cs : List Cell} {a : Int} (h : cellOf cs a = none) : ∀ c ∈ cs, c.a ≠ a := fun c hc e => rowAt_none h c hc (by rw [← e]; rfl)
theorem filt_range {α β : Type} (f : α → Bool) (g : α → β) (sl : Option α → Bool) (h : Option α → β) (hs : ∀ a, sl (some a) = f a) (hh : ∀ a, h (some a) = g a) : ∀ l : List α, ((List.range l.length).filter fun i => sl l[i]?).map (fun i => h l[i]?) = (l.filter f).map g
  | [] => rfl
  | a :: l => by
    have ih := filt_range f g sl h hs hh l
    have e : ((List.range l.length).map Nat.succ).filter (fun i => sl (a :: l)[i]?) = ((List.range l.length).filter fun i => sl l[i]?).map Nat.succ := by
      rw [List.filter_map]
      congr 1
    have e2 : (((List.range l.length).filter fun i => sl l[i]?).map Nat.succ).map (fun i => h (a :: l)[i]?) = ((List.range l.length).filter fun i => sl l[i]?).map (fun i => h l[i]?) := by
      rw [List.map_map]
      rfl
    rw [List.length_cons, List.range_succ_eq_map, List.filter_cons, List.filter_cons, e]
    have h0 : sl (a :: l)[0]? = f a := hs a
    rw [h0]
    cases f a with
    | true =>
      rw [if_pos rfl, if_pos rfl, List.map_cons, List.map_cons, e2, ih]
      congr 1
      exact hh a
    | false =>
      rw [if_neg Bool.false_ne_true, if_neg Bool.false_ne_true, e2, ih]
theorem seq_of_dp {K : PySem.W.Frag} {H : Hp} {a : Addr} {ds : List PyData} (h : Dp K H (.ref a) (.tuple ds)) : ∃ xs, SeqOf K H a xs ∧ DpAll K H xs ds := by
  cases h with
  | tup hs ha => exact ⟨_, .inr hs, ha⟩
theorem log2_small {n : Nat} (h : n ≤ 9999) : n.log2 < 1920 := by
  by_cases e : n = 0
  · rw [e]; decide
  · exact Nat.lt_of_lt_of_le ((Nat.log2_lt e).mpr (show n < 2 ^ 14 by omega)) (by decide)
theorem pe_calS {X : Cx} {W : WX} {k j : Nat} {x : Str} {ps : List Str} {sp : Sp} {p pos : Pos} {e : Expr} {es : List Expr} {t : TA} (c : Cal X.prog X.w X.K X.mg X.base (L2N.CX X.prog X.w) k x ps sp) (hr : Room j X.A) (hk : k ≤ j) (hg : Gl X x) (tk : L2N.Takes X W) (ha : PA X (e :: es) t)
    (hdb : (x == ("__debug__" : Str)) = false := by decide) (he : starEach (e :: es) X.env = (false, eval e X.env) :: starEach es X.env := by rfl) (hpl : (backTo pos (starEach es X.env)).any (·.1) = false := by rfl) :
    PE X (.Call (.Name x p) (e :: es) [] pos) (tCallS sp (WE W) t) := by
  obtain ⟨f, fd, F, hm, kp, hb⟩ := c.ok
  exact pe_callS F (hr.mono hk) hg hm kp hb (fun σ => L2N.passAt tk σ) ha hdb he hpl
theorem k_callS {sp : Sp} {E : L2.St → XK} {t : TA} {σ : L2.St} {H : Hp} {Q : VK} (h : t σ H fun vs H1 => sp vs H1 Q (E σ)) : tCallS sp E t σ H Q := h
/-- o.m(e, ..) of a method whose exception a suite takes -/
def tMethS (C : Addr) (m : Str) (sp : Sp) (E : L2.St → XK) (ta : TE) (t : TA) : TE := fun σ H Q => ta σ H fun x H1 => ∃ a dx fs, x = .ref a ∧ H1 a = some (.ins C dx fs) ∧ fs.lookup m = none ∧ t σ H1 fun vs H2 => sp (x :: vs) H2 Q (E σ)
theorem k_metS {C : Addr} {m : Str} {sp : Sp} {E : L2.St → XK} {ta : TE} {t : TA} {σ : L2.St} {H : Hp} {Q : VK} (h : ta σ H fun x H1 => ∃ a dx fs, x = .ref a ∧ H1 a = some (.ins C dx fs) ∧ fs.lookup m = none ∧ t σ H1 fun vs H2 => sp (x :: vs) H2 Q (E σ)) : tMethS C m sp E ta t σ H Q := h
theorem pe_metS {X : Cx} {W : WX} {k j : Nat} {m : Str} {C : Addr} {ps : List Str} {sp : Sp} {pos apos : Pos} {e o : Expr} {es : List Expr} {ta : TE} {t : TA} {pl : Sem Bool} (he : PE X o ta) (c : Cls X.K C) (cm : Met X.prog X.w X.K X.mg X.base (L2N.CX X.prog X.w) k C m ps sp) (hr : Room j X.A) (hk : k ≤ j) (tk : L2N.Takes X W) (ha : PA X (e :: es) t)
    (hst : starEach (e :: es) X.env = (false, eval e X.env) :: starEach es X.env := by rfl) (hpl : (backTo pos (starEach es X.env)).any (·.1) = false := by rfl)
    (ht : eval (.Call (.Attribute o m apos) (e :: es) [] pos) X.env = (do
      let ov ← eval o X.env
      standAt apos.atName
      let (f, first) ← holding [ov] (getMethod ov m pl)
      callWith pos f first (backTo pos (starEach (e :: es) X.env)) (backToKw pos (keywordEach [] X.env))) := by rfl) :
    PE X (.Call (.Attribute o m apos) (e :: es) [] pos) (tMethS C m sp (WE W) ta t) := by
  obtain ⟨f, fd, F, M, hb⟩ := cm.ok
  refine ⟨fun pins s σ H Q I h => ?_⟩
  refine PySem.W.methodCall_KW (pl := pl) (thn (he.run pins s σ H _ I h) fun u s1 ⟨x, H1, I1, rx, a, dx, fs, ex, ea, l, q⟩ => ?_) ht
  subst ex
  obtain rfl : u = Value.ref a := rx
  refine getmeth_ok I1 ea c M l ?_
  refine PySem.W.callWith_K (first := [.ref a]) (h₀ := X.base) I.ok.mod.kin M.kp (thn (ha.run pos pins s1 σ H1 _ I1 q) fun us s2 ⟨vs, H2, I2, r, q2⟩ => ⟨I2.kIn, ?_⟩) hst hpl
  exact run_fnS (us := .ref a :: us) (vs := .ref a :: vs) (E := WE W) (Q := Q) F (hr.mono hk) hb (L2N.passAt tk σ) I2 (.cons rfl r) q2
theorem passF {X : Cx} : Passes (L2N.CX X.prog X.w) X (fun _ _ _ => False) := L2N.passes_call (W := fun _ _ _ _ => False) (fun _ _ ⟨_, _, _, _, _, _, _, _, _, _, _, _, _, _, _, _, w⟩ => w.elim) (fun _ _ _ _ h => h)
theorem takesF {X : Cx} : L2N.Takes X (fun _ _ _ _ => False) := fun _ _ ⟨_, _, _, _, _, _, _, _, _, _, _, _, _, _, _, _, w⟩ => w.elim
theorem k_mkN {C : Addr} {ta : TA} {σ : L2.St} {H : Hp} {Q : XK} (h : ta σ H fun vs H1 => ∃ z : Str, vs = [V.str z] ∧ z.length ≤ 1000 ∧ ∀ d, H1 d = none → Q (.ref C) (some d) (upd H1 d (xdN z))) : tMkSupN C ta σ H Q := h
theorem k_mk3 {C : Addr} {ta : TA} {σ : L2.St} {H : Hp} {Q : XK} (h : ta σ H fun vs H1 => ∃ (z1 z3 : Str) (i : Int), vs = [V.str z1, V.int i, V.str z3] ∧ z1.length ≤ 1000 ∧ i.natAbs.log2 < 1920 ∧ z3.length ≤ 1000 ∧ ∀ d, H1 d = none → Q (.ref C) (some d) (upd H1 d (xdT z1 i z3))) : tMkSup3 C ta σ H Q := h


/-! ### what is due -/
def nmLe (a b : Str × Int) : Bool := decide (a.1.cps.toList ≤ b.1.cps.toList)
theorem sortN_ex {ns : List (Str × Int)} (nd : (ns.map (·.1)).Nodup) : ∃ ms : List (Str × Int), (ns.map dName).mergeSort (dataLe false id) = ms.map dName ∧ NmOk ms ∧ (∀ n, n ∈ ms ↔ n ∈ ns) ∧ ms.length = ns.length := by
  have pm := List.mergeSort_perm ns nmLe
  refine ⟨ns.mergeSort nmLe, ?_, ?_, fun n => pm.mem_iff, pm.length_eq⟩
  · symm
    refine List.map_mergeSort fun a ha b hb => ?_
    show nmLe a b = !dataLt (dName b) (dName a)
    unfold nmLe
    by_cases e : a.1 = b.1
    · have e2 : a = b := by
        have h1 := rowAt_mem (key := fun n : Str × Int => n.1) nd ha
        have h2 := rowAt_mem (key := fun n : Str × Int => n.1) nd hb
        have h1' : rowAt (fun n : Str × Int => n.1) ns a.1 = some a := h1
        have h2' : rowAt (fun n : Str × Int => n.1) ns b.1 = some b := h2
        rw [e, h2'] at h1'
        exact (Option.some.inj h1').symm
      subst e2
      rw [decide_eq_true (List.le_refl _)]
      unfold dName
      rw [dataLt_pair (by simp [alike]) (by simp [alike])]
      simp [PyData.eqv]
    · have e3 : PyData.eqv (.str b.1) (.str a.1) = false := by
        simp only [PyData.eqv, beq_eq_false_iff_ne]
        exact fun z => e z.symm
      unfold dName
      rw [dataLt_head (by simp [alike]) e3, dataLt_str]
      by_cases h : b.1.cps.toList < a.1.cps.toList
      · rw [decide_eq_true h, decide_eq_false (List.not_le.mpr h)]
        rfl
      · rw [decide_eq_false h, decide_eq_true (List.not_lt.mp h)]
        rfl
  · have pw : (ns.mergeSort nmLe).Pairwise (fun a b => nmLe a b = true) := List.pairwise_mergeSort (fun a b c h1 h2 => by
      unfold nmLe at *
      rw [decide_eq_true_eq] at *
      exact List.le_trans h1 h2) (fun a b => by
      unfold nmLe
      rw [Bool.or_eq_true, decide_eq_true_eq, decide_eq_true_eq]
      exact List.le_total _ _) ns
    have nd2 : ((ns.mergeSort nmLe).map (·.1)).Nodup := (pm.map _).nodup_iff.mpr nd
    rw [List.nodup_iff_pairwise_ne, List.pairwise_map] at nd2
    unfold NmOk
    refine (List.pairwise_and_iff.mpr ⟨pw, nd2⟩).imp fun {a b} h => ?_
    have h1 : a.1.cps.toList ≤ b.1.cps.toList := of_decide_eq_true h.1
    by_cases h2 : a.1.cps.toList < b.1.cps.toList
    · exact h2
    · exact absurd (str_eq h2 (List.not_lt.mpr h1)) h.2
theorem itemsN {K : PySem.W.Frag} {H : Hp} (ns : List (Str × Int)) : L3.ItemsOf K H (kvN ns) (ns.map dName) := by
  unfold L3.ItemsOf kvN
  induction ns with
  | nil => exact .nil
  | cons n ns ih => exact .cons ⟨.int n.2, rfl, .int _⟩ ih
/-- a dict of cells -/
def DictC (H : Hp) (d : Addr) (cs : List Cell) : Prop := ∃ kvs, H d = some (.dK kvs) ∧ RowsOf H kvs cs ∧ (cs.map kC).Nodup
def DictN (H : Hp) (d : Addr) (ns : List (Str × Int)) : Prop := H d = some (.dK (kvN ns)) ∧ (ns.map (·.1)).Nodup
theorem DictC.ex {H H' : Hp} {d : Addr} {cs : List Cell} (e : Ex H H') (h : DictC H d cs) : DictC H' d cs := let ⟨kvs, h1, h2, h3⟩ := h; ⟨kvs, e _ _ h1, RowsK.ex TRow_ex e h2, h3⟩
theorem DictN.ex {H H' : Hp} {d : Addr} {ns : List (Str × Int)} (e : Ex H H') (h : DictN H d ns) : DictN H' d ns := ⟨e _ _ h.1, h.2⟩
theorem ckeys {cs : List Cell} (nd : (cs.map kC).Nodup) : (cs.map (·.a)).Nodup := by
  have : cs.map kC = (cs.map (·.a)).map Sum.inl := by rw [List.map_map]; rfl
  rw [this] at nd
  exact List.Pairwise.of_map Sum.inl (fun a b h e => h (by rw [e])) nd
/-- for place in sorted(cells) -/
theorem sortC_ex {cs : List Cell} (nd : (cs.map kC).Nodup) {ys : List Int} (pm : ys.Perm (cs.map (·.a))) (so : ys.Pairwise (· ≤ ·)) : ∃ ds : List Cell, ds.map (·.a) = ys ∧ CsOk ds ∧ (∀ c, c ∈ ds ↔ c ∈ cs) ∧ ds.length = cs.length := by
  obtain ⟨ds, eds, eln, emem⟩ := rows_of_keys (key := fun n : Cell => n.a) (ckeys nd) pm
  refine ⟨ds, eds, ?_, emem, eln⟩
  have q := ints_strict pm so (ckeys nd)
  rw [← eds, List.pairwise_map] at q
  exact q
def dDue (ns : List (Str × Int)) (cs : List Cell) : PyData := .tuple [dNames ns, dCells cs, .int cs.length]
def spDue (K : PySem.W.Frag) : Sp := fun vs H Q _ => ∃ (a b : Addr) (ns : List (Str × Int)) (cs : List Cell), vs = [.ref a, .ref b] ∧ DictN H a ns ∧ ns.length ≤ 20 ∧ DictC H b cs ∧ cs.length ≤ 60 ∧
  ∀ H' t ns' cs', Ex H H' → NmOk ns' → (∀ n, n ∈ ns' ↔ n ∈ ns) → CsOk cs' → (∀ c, c ∈ cs' ↔ c ∈ cs) → cs'.length = cs.length → ns'.length = ns.length → Dp K H' (.ref t) (dDue ns' cs') → Q (.ref t) H'
def DueI (a b l : Addr) (H2 : Hp) (ds : List Cell) (i : Nat) (σ : L2.St) (H' : Hp) : Prop := ∃ (v3 v4 v5 v6 : Option V) (vs : List V), σ = [some (.ref a), some (.ref b), some (.ref l), v3, v4, v5, v6] ∧ ExB l H2 H' ∧ H' l = some (.lst vs) ∧ Paired (fun c v => TFull H' c v) (ds.take i) vs
section
variable {P : Program} {w : World} {K : PySem.W.Frag} {mg : Str → Option Value} {base : Heap}
theorem c_l_due (T : Tx w K mg) : Cal P w K mg base CX0 1 "_law_due" ["names", "cells"] (spDue K) := by
  refine cal_mk T.D_l_due T.m__law_due sc_l_due (fun _ _ _ _ _ _ us hl => match us, hl with | [_, _], _ => rfl) (fun vs H Q E h => ?_) (fun f cdv A outer s H vs Q E hr h => ?_)
  · obtain ⟨a, b, ns, cs, rfl, _⟩ := h
    rfl
  · obtain ⟨a, b, ns, cs, rfl, hN, hnl, hC, hcl, k⟩ := h
    obtain ⟨kvs, hk, hrw, nd⟩ := hC
    have hu := hu_of hr
    refine ⟨_, ((pss_cons (ps_set (i := 2) sc_l_due.nd rfl (Or.inl rfl) (pe_lst pa_nil))
  (pss_cons (ps_for PassesOwn.never rfl (pi_list (pe_callB (call_sortedDI rfl) rfl T.f_sorted (by decide +kernel) (pa_cons (pv 1) pa_nil))) (pg_name (i := 3) sc_l_due.nd rfl (Or.inl rfl)) (pss_cons (ps_asg (pe_dget hu (pv 1) (pv 3) (fun _ _ => rfl)) (pg_tup (n := 3) rfl (pgs_cons (pg_name (i := 4) sc_l_due.nd rfl (Or.inl rfl)) (pgs_cons (pg_name (i := 5) sc_l_due.nd rfl (Or.inl rfl)) (pgs_cons (pg_name (i := 6) sc_l_due.nd rfl (Or.inl rfl)) pgs_nil)))))
  (pss_one (ps_expr (pe_bm PySem.F.plainAttrs_list PySem.F.slot_list_append PySem.F.type_list_append mt_append (pv 2) (pa_cons (pe_tup (pa_cons (pv 3) (pa_cons (pv 4) (pa_cons (pv 5) (pa_cons (pv 6) pa_nil))))) pa_nil))))))
  (pss_one (ps_ret (pe_tup (pa_cons (pe_callTy cr_tupOf rfl T.f_tuple (by decide +kernel) (pa_cons (pe_callB (cr_sortIt rfl (hu64 hr)) rfl T.f_sorted (by decide +kernel) (pa_cons (pe_bm0 PySem.F.plainAttrs_dict PySem.F.slot_dict_items PySem.F.type_dict_items mt_itemsK (pv 0)) pa_nil)) pa_nil)) (pa_cons (pe_callTy cr_tupOf rfl T.f_tuple (by decide +kernel) (pa_cons (pv 2) pa_nil)) (pa_cons (pe_callB cr_len rfl T.f_len (by decide +kernel) (pa_cons (pv 2) pa_nil)) pa_nil))))))))), ?_⟩
    dsimp only [cxOf, Cx.nox]
    repeat walk_at "st"
    intro l H1 hl e1 h1
    repeat walk_at "st"
    have hkeys : kvs.map (·.1) = (cs.map (·.a)).map Sum.inl := by
      rw [hrw.keys, List.map_map]
      rfl
    refine ⟨b, kvs, cs.map (·.a), rfl, .inl (e1.get hk), hkeys, by rw [List.length_map]; omega, fun ys pl pm so hpl => ?_⟩
    obtain ⟨ds, eds, cds, mds, lds⟩ := sortC_ex nd pm so
    have e2 : Ex H1 (upd H1 pl (.lst (ys.map V.int))) := Ex.new hpl
    have h2 : upd H1 pl (.lst (ys.map V.int)) pl = some (.lst (ys.map V.int)) := upd_same
    have npl : pl ≠ l := fun z => by rw [z, h1] at hpl; cases hpl
    generalize upd H1 pl (.lst (ys.map V.int)) = H2 at e2 h2
    have e02 : Ex H H2 := e1.trans e2
    have ylen : (ys.map V.int).length = ds.length := by rw [List.length_map, ← eds, List.length_map]
    refine ⟨pl, rfl, ⟨_, .inl (.inl h2)⟩, ?_⟩
    refine for_it (walk_list (xs := ys.map V.int)) (DueI a b l H2 ds) ⟨none, none, none, none, [], rfl, ExB.of (Ex.refl _), e2.get h1, .nil⟩ (fun i σ' H' _ ⟨_, _, _, _, _, _, b, _⟩ => .inl (.inl (b _ _ npl h2))) (fun i x σ' H' H'' hi ⟨v3, v4, v5, v6, vs, es, bb, hL, pr⟩ y => ?_) (fun σ' H' ⟨v3, v4, v5, v6, vs, es, bb, hL, pr⟩ => ?_)
    · subst es
      obtain ⟨rfl, y⟩ := y
      obtain ⟨c, hc⟩ : ∃ c, ds[i]? = some c := ⟨ds[i]'(by omega), List.getElem?_eq_getElem (by omega)⟩
      rw [List.getElem?_map, ← eds, List.getElem?_map, hc] at y
      cases y
      have eH : Ex H H'' := ExB.old e02 hl bb
      have hat := hrw.val (kC c)
      rw [rowAt_mem nd ((mds c).mp (List.mem_of_getElem? hc))] at hat
      obtain ⟨v, hv, t, rfl, ht⟩ := hat
      have vlen : vs.length ≤ 60 := by
        have z1 := Paired.length pr
        rw [List.length_take] at z1
        omega
      have ht2 := eH.get ht
      have hk2 := eH.get hk
      unfold rowT at ht2
      repeat walk_at "st"
      refine k_dgetE (k := Sum.inl c.a) rfl (.inl hk2) hv ?_
      repeat walk_at "st"
      intro q H6 hq e6 h6
      have hL6 := e6.get hL
      repeat walk_at "st"
      intro H7 b7 h7
      refine ⟨_, _, _, _, _, rfl, bb.trans ((ExB.of e6).trans b7), h7, ?_⟩
      rw [List.take_add_one, hc]
      have xT := ExB.t b7 hL6
      exact Paired.snoc' (TFull.exT xT ⟨q, rfl, h6⟩) (Paired.mapP pr fun a v z => TFull.exT ((Ex.t e6).trans xT) z)
    · subst es
      rw [ylen, List.take_length] at pr
      have eH : Ex H H' := ExB.old e02 hl bb
      have hNa := eH.get hN.1
      repeat walk_at "st"
      obtain ⟨ms, hms, oms, mms, lms⟩ := sortN_ex hN.2
      refine ⟨.inr (.inr (.inl ⟨rfl, .inl ⟨_, hNa⟩⟩)), a, kvN ns, rfl, rfl, hNa, fun p hp => ?_⟩
      have e3 : Ex H' (upd H' p (L2.DX.itemsO p a)) := Ex.new hp
      have h3 : upd H' p (L2.DX.itemsO p a) p = some (L2.DX.itemsO p a) := upd_same
      generalize upd H' p (L2.DX.itemsO p a) = H3 at e3 h3
      repeat walk_at "st"
      refine ⟨p, a, kvN ns, ns.map dName, rfl, h3, e3.get hNa, itemsN ns, so_names (by omega), fun H4 q vs4 e4 h4 d4 => ?_⟩
      rw [hms] at d4
      repeat walk_at "st"
      refine k_tupL (.inl (.inl h4)) fun t1 H5 ht1 e5 h5 => ?_
      have hL5 := e5.get (e4.get (e3.get hL))
      repeat walk_at "st"
      refine k_tupL (.inl (.inl hL5)) fun t2 H6 ht2 e6 h6 => ?_
      have hL6 := e6.get hL5
      repeat walk_at "st"
      intro t3 H7 ht3 e7 h7
      have eF : Ex H' H7 := e3.trans (e4.trans (e5.trans (e6.trans e7)))
      have vl : vs.length = ds.length := (Paired.length pr).symm
      refine k H7 t3 ms ds (eH.trans eF) oms mms cds mds lds lms (.tup (.inl (.inl h7)) (.cons (.tup (.inl (.inl ((e6.trans e7).get h5))) (DpAll_ex (e5.trans (e6.trans e7)) _ _ d4)) (.cons (.tup (.inl (.inl (e7.get h6))) (DpAll_ex eF _ _ (dp_cells pr))) (.cons ?_ .nil))))
      rw [vl]
      exact .int _
end


def spSize (K : PySem.W.Frag) : Sp := fun vs H Q _ => ∃ (p : Addr) (ns : List (Str × Int)) (cs : List Cell), vs = [.ref p] ∧ HeapAt K H p ns cs ∧ Q (.int cs.length) H
theorem wt_names (ns : List (Str × Int)) : wts (ns.map dName) = 3 * ns.length := by
  induction ns with
  | nil => rfl
  | cons n ns ih => rw [List.map_cons, wts, ih, List.length_cons]; simp [dName, wt, wts]; omega
theorem wt_cells (ns : List Cell) : wts (ns.map dCell) = 5 * ns.length := by
  induction ns with
  | nil => rfl
  | cons n ns ih => rw [List.map_cons, wts, ih, List.length_cons]; simp [dCell, wt, wts]; omega
theorem wt_due (ns : List (Str × Int)) (cs : List Cell) : wt (dDue ns cs) = 3 * ns.length + 5 * cs.length + 4 := by
  unfold dDue dNames dCells
  simp [wt, wts, wt_names, wt_cells]
  omega
/-- told is the heap of the dicts -/
def spLHeap (K : PySem.W.Frag) : Sp := fun vs H Q _ => ∃ (p a b : Addr) (ns ms : List (Str × Int)) (cs ds : List Cell), vs = [.ref p, .ref a, .ref b] ∧ HeapAt K H p ns cs ∧ DictN H a ms ∧ DictC H b ds ∧ ms.length ≤ 20 ∧ ds.length ≤ 60 ∧ (∀ n, n ∈ ns ↔ n ∈ ms) ∧ (∀ c, c ∈ cs ↔ c ∈ ds) ∧ ∀ H', Ex H H' → Q (.bl true) H'
section
variable {P : Program} {w : World} {K : PySem.W.Frag} {mg : Str → Option Value} {base : Heap}
theorem sz_Heap (Y : Ty P w K mg) : Prp P w K mg base CX0 1 (hC K) "size" ["self"] (spSize K) := by
  have T := Y.T
  obtain ⟨p, g, hp, fd, F⟩ := Y.siz
  refine ⟨p, g, fd, hp, F.ok sc_Heap_size (fun vs H Q E h => ?_) (fun cdv A outer s H vs Q E hr h => ?_), F.bindsN (fun _ _ _ _ _ _ us hl => match us, hl with | [_], _ => rfl)⟩
  · obtain ⟨p, ns, cs, rfl, _⟩ := h
    rfl
  · have z : ∃ t, PSs (cxOf CX0 P w K mg base ["self"] "Heap.size" (defScope s_Heap_size) g cdv A outer s H E).nox (defBody s_Heap_size) t ∧ t { nx := fun _ H' => Q .non H', rt := Q } (L2.start ["self"] vs) H := by
      obtain ⟨p, ns, cs, rfl, hA, k⟩ := h
      obtain ⟨dx, tn, tc, d, kvs, hA1⟩ := id hA
      obtain ⟨_, zs, et, hz, hzl, hzc⟩ := cells_tup hA1.cls
      cases et
      refine ⟨_, ((pss_one (ps_ret (pe_callB cr_len rfl T.f_len (by decide +kernel) (pa_cons (pe_fld (pv 0) rfl) pa_nil))))), ?_⟩
      dsimp only [cxOf, Cx.nox]
      repeat walk_at "st"
      refine k_fldE hA1.ins T.cls_Heap T.no_Heap_cells (hf_cells _ _ _) ?_
      repeat walk_at "st"
      rw [hzl]
      exact k
    obtain ⟨t, ht, q⟩ := z
    exact ⟨t, ht.nox, q⟩
theorem c_l_heap (Y : Ty P w K mg) : Cal P w K mg base CX0 3 "_law_heap" ["told", "names", "cells"] (spLHeap K) := by
  have T := Y.T
  refine cal_mk T.D_l_heap T.m__law_heap sc_l_heap (fun _ _ _ _ _ _ us hl => match us, hl with | [_, _, _], _ => rfl) (fun vs H Q E h => ?_) (fun f cdv A outer s H vs Q E hr h => ?_)
  · obtain ⟨p, a, b, ns, ms, cs, ds, rfl, _⟩ := h
    rfl
  · obtain ⟨p, a, b, ns, ms, cs, ds, rfl, hA, hN, hC, hnl, hcl, hn, hc, k⟩ := h
    obtain ⟨dx, tn, tc, d, kvs, hA1⟩ := id hA
    refine ⟨_, ((pss_cons (ps_if (pt_not (pt_val (pe_callB call_isi rfl T.f_isinstance (by decide +kernel) (pa_cons (pv 0) (pa_cons (by exact C8.pe_gc rfl T.c_Heap) pa_nil))))) (pss_one (ps_ret pe_bl)) pss_nil)
  (pss_cons (ps_set (i := 3) sc_l_heap.nd rfl (Or.inl rfl) (pe_tup (pa_cons (pe_fld (pv 0) rfl) (pa_cons (pe_fld (pv 0) rfl) (pa_cons (pe_prp (pv 0) T.cls_Heap (sz_Heap Y) hr (by decide) pass0 rfl) pa_nil)))))
  (pss_one (ps_ret (by exact pe_cal (c_l_same T) hr (by decide) rfl pass0 (pa_cons (pv 3) (pa_cons (by exact pe_cal (c_l_due T) hr (by decide) rfl pass0 (pa_cons (pv 1) (pa_cons (pv 2) pa_nil))) pa_nil)))))))), ?_⟩
    dsimp only [cxOf, Cx.nox]
    repeat walk_at "st"
    refine ⟨_, _, _, _, true, rfl, .own _, Y.tyx hA1.ins, Y.kh, ?_⟩
    repeat walk_at "st"
    refine k_fldE hA1.ins T.cls_Heap T.no_Heap_names (hf_names _ _ _) ?_
    repeat walk_at "st"
    refine k_fldE hA1.ins T.cls_Heap T.no_Heap_cells (hf_cells _ _ _) ?_
    repeat walk_at "st"
    refine k_prop ?_
    repeat walk_at "st"
    refine ⟨p, _, _, rfl, hA1.ins, p, ns, cs, rfl, hA, ?_⟩
    repeat walk_at "st"
    intro t H1 ht e1 h1
    repeat walk_at "st"
    refine ⟨a, b, ms, ds, rfl, hN.ex e1, hnl, hC.ex e1, hcl, fun H2 t2 ns' cs' e2 on mn oc mc lc ln hD => ?_⟩
    repeat walk_at "st"
    have en : ns' = ns := on.uniq hA1.no fun c => (mn c).trans (hn c).symm
    have ec : cs' = cs := oc.uniq hA1.co fun c => (mc c).trans (hc c).symm
    subst en ec
    refine ⟨_, _, dDue ns' cs', rfl, .tup (.inl (.inl (e2.get h1))) (.cons (Dp_ex (e1.trans e2) _ _ hA1.nms) (.cons (Dp_ex (e1.trans e2) _ _ hA1.cls) (.cons (.int _) .nil))), hD, ?_, fun H3 e3 => k H3 (e1.trans (e2.trans e3))⟩
    rw [wt_due]
    omega
end


/-! ### names that are drawn -/
def abc : Str := "abcdefghijklmnopqrstuvwxyz"
def LetZ (z : Str) (n : Nat) : Prop := z.length = n ∧ ∀ c ∈ z.cps.toList, letterB c = true
theorem abc_at {i : Int} (h0 : 0 ≤ i) (h1 : i < 26) : ∃ c, atI abc.cps.toList i = some c ∧ letterB c = true := by
  have hl : abc.cps.toList.length = 26 := by decide +kernel
  have hlt : i.toNat < abc.cps.toList.length := by omega
  refine ⟨abc.cps.toList[i.toNat], atI_of h0 (List.getElem?_eq_getElem hlt), ?_⟩
  exact decide_eq_true (List.getElem_mem hlt)
theorem letter_small {c : Nat} (h : letterB c = true) : c < 128 := by
  have h2 : c ∈ abc.cps.toList := of_decide_eq_true h
  have : ∀ c ∈ abc.cps.toList, c < 128 := by decide +kernel
  exact this c h2
theorem name_ok {z : Str} {n : Nat} (h : LetZ z n) (h1 : 1 ≤ n) (h4 : n ≤ 4) (hn : inV (.str z) (notNames.map V.str) = false) : nameB z = true ∧ z.length ≤ 100 ∧ PyData.strOk z = true := by
  obtain ⟨hl, hc⟩ := h
  refine ⟨?_, by omega, ?_⟩
  · unfold nameB lettersB
    rw [hn, decide_eq_true (by omega : (1 : Int) ≤ (z.length : Int)), decide_eq_true (by omega : (z.length : Int) ≤ 4), List.all_eq_true.mpr hc]
    rfl
  · unfold PyData.strOk
    rw [Array.all_eq_true_iff_forall_mem]
    intro c hcm
    have := letter_small (hc c (Array.mem_toList_iff.mpr hcm))
    exact decide_eq_true (by omega)
theorem LetZ.snoc {z : Str} {n c : Nat} (h : LetZ z n) (hc : letterB c = true) : LetZ (z ++ ⟨#[c]⟩) (n + 1) := by
  refine ⟨by rw [Str.length_append, h.1]; rfl, fun d hd => ?_⟩
  have e : (z ++ ⟨#[c]⟩ : Str).cps.toList = z.cps.toList ++ [c] := by
    rw [Str.cps_append]
    simp
  rw [e] at hd
  rcases List.mem_append.mp hd with q | q
  · exact h.2 d q
  · have : d = c := by simpa using q
    rw [this]; exact hc
theorem q_ok {c : Nat} (h : letterB c = true) : nameB (⟨#[c]⟩ ++ "q" : Str) = true ∧ (⟨#[c]⟩ ++ "q" : Str).length ≤ 100 ∧ PyData.strOk (⟨#[c]⟩ ++ "q" : Str) = true := by
  have l1 : LetZ ⟨#[c]⟩ 1 := ⟨rfl, fun d hd => by
    have : d = c := by simpa using hd
    rw [this]; exact h⟩
  have l2 : LetZ (⟨#[c]⟩ ++ "q" : Str) 2 := l1.snoc (c := 113) (by decide +kernel)
  refine name_ok l2 (by decide) (by decide) ?_
  have key : ∀ w ∈ notNames, w.cps.toList[1]? ≠ some 113 := by decide +kernel
  unfold inV
  rw [List.any_eq_false]
  intro v hv
  obtain ⟨w, hw, rfl⟩ := List.mem_map.mp hv
  intro e
  have e2 : w = (⟨#[c]⟩ ++ "q" : Str) := by simpa [eqV] using e
  refine key w hw ?_
  rw [e2, Str.cps_append]
  rfl
theorem cut1 {z : Str} {n : Nat} (h : LetZ z n) (h1 : 1 ≤ n) : ∃ c, letterB c = true ∧ cutS z none (some 1) = ⟨#[c]⟩ := by
  have e0 : z.cps.toList.length = n := by rw [Array.length_toList]; exact h.1
  cases hz : z.cps.toList with
  | nil => rw [hz] at e0; simp at e0; omega
  | cons c r =>
    refine ⟨c, h.2 c (by rw [hz]; exact List.mem_cons_self ..), ?_⟩
    unfold cutS
    have s1 : HT.sIx z.length z.length (some 1) = 1 := by
      have := HT.sIx_nat z.length z.length 1
      rw [show ((1 : Nat) : Int) = 1 from rfl] at this
      rw [this, h.1]
      omega
    rw [hz, s1]
    rfl
theorem inV_str (z : Str) (zs : List Str) : inV (.str z) (zs.map V.str) = decide (z ∈ zs) := by
  unfold inV
  by_cases h : z ∈ zs
  · rw [decide_eq_true h, List.any_eq_true]
    exact ⟨.str z, List.mem_map.mpr ⟨z, h, rfl⟩, by simp [eqV]⟩
  · rw [decide_eq_false h, List.any_eq_false]
    intro v hv
    obtain ⟨y, hy, rfl⟩ := List.mem_map.mp hv
    intro e
    have : y = z := by simpa [eqV] using e
    exact h (this ▸ hy)
theorem flat_str (zs : List Str) : (zs.map V.str).all flatV = true := by
  rw [List.all_eq_true]
  intro v hv
  obtain ⟨y, _, rfl⟩ := List.mem_map.mp hv
  rfl
def GoodN (z : Str) : Prop := nameB z = true ∧ z.length ≤ 100 ∧ PyData.strOk z = true
def spLNames (K : PySem.W.Frag) : Sp := fun vs H Q _ => ∃ (p : Addr) (m : Int), vs = [.ref p, .int m] ∧ Pool H p ∧ 0 ≤ m ∧ m ≤ 8 ∧
  ∀ H' l (zs : List Str), ExB p H H' → Pool H' p → H l = none → H' l = some (.lst (zs.map V.str)) → zs.Nodup → (∀ z ∈ zs, GoodN z) → zs.length ≤ m.toNat → (1 ≤ m → zs ≠ []) → Q (.ref l) H'
def LnI (p l wl : Addr) (m : Int) (H : Hp) (i : Nat) (σ : L2.St) (H' : Hp) : Prop := ∃ (v5 v6 v7 v8 : Option V) (zs : List Str), σ = [some (.ref p), some (.int m), some (.ref l), some (.str abc), some (.ref wl), v5, v6, v7, v8] ∧
  ExB p H H' ∧ Pool H' p ∧ H' l = some (.lst (zs.map V.str)) ∧ H' wl = some (.lst (notNames.map V.str)) ∧ zs.Nodup ∧ (∀ z ∈ zs, GoodN z) ∧ zs.length ≤ i ∧ (1 ≤ i → zs ≠ [])
def LnJ (p l wl : Addr) (m : Int) (k : Int) (low : Int) (H : Hp) (zs : List Str) (j : Nat) (σ : L2.St) (H' : Hp) : Prop := ∃ (v8 : Option V) (z : Str), σ = [some (.ref p), some (.int m), some (.ref l), some (.str abc), some (.ref wl), some (.int k), some (.str z), some (.int low), v8] ∧
  ExB p H H' ∧ Pool H' p ∧ H' l = some (.lst (zs.map V.str)) ∧ H' wl = some (.lst (notNames.map V.str)) ∧ LetZ z j
section
variable {P : Program} {w : World} {K : PySem.W.Frag} {mg : Str → Option Value} {base : Heap}
theorem c_l_names (T : Tx w K mg) : Cal P w K mg base CX0 2 "_law_names" ["pool", "many"] (spLNames K) := by
  refine cal_mk T.D_l_names T.m__law_names sc_l_names (fun _ _ _ _ _ _ us hl => match us, hl with | [_, _], _ => rfl) (fun vs H Q E h => ?_) (fun f cdv A outer s H vs Q E hr h => ?_)
  · obtain ⟨p, m, rfl, _⟩ := h
    rfl
  · obtain ⟨p, m, rfl, hP, hm0, hm8, k⟩ := h
    refine ⟨_, ((pss_cons (ps_par (i := 2) (j := 3) rfl sc_l_names.nd rfl rfl (by decide) rfl rfl (pa_cons (pe_lst pa_nil) (pa_cons pe_str pa_nil)) rfl)
  (pss_cons (ps_set (i := 4) sc_l_names.nd rfl (Or.inl rfl) (pe_lst (pa_cons pe_str (pa_cons pe_str (pa_cons pe_str (pa_cons pe_str (pa_cons pe_str (pa_cons pe_str (pa_cons pe_str (pa_cons pe_str (pa_cons pe_str pa_nil)))))))))))
  (pss_cons (ps_set (i := 4) sc_l_names.nd rfl (Or.inl rfl) (pe_op op_cat (pv 4) (pe_lst (pa_cons pe_str (pa_cons pe_str (pa_cons pe_str (pa_cons pe_str (pa_cons pe_str (pa_cons pe_str pa_nil)))))))))
  (pss_cons (ps_for PassesOwn.never rfl (pi_range1 rfl T.f_range (pa_cons (pv 1) pa_nil)) (pg_name (i := 5) sc_l_names.nd rfl (Or.inl rfl)) (pss_cons (ps_par (i := 6) (j := 7) rfl sc_l_names.nd rfl rfl (by decide) rfl rfl (pa_cons pe_str (pa_cons (pe_ix (ix_listK (K := K) rfl) (pe_lst (pa_cons pe_int (pa_cons pe_int (pa_cons pe_int (pa_cons pe_int (pa_cons pe_int (pa_cons pe_int (pa_cons pe_int (pa_cons pe_int pa_nil))))))))) (pv 5) (fun _ _ => rfl)) pa_nil)) rfl)
  (pss_cons (ps_for PassesOwn.never rfl (pi_range1 rfl T.f_range (pa_cons (pe_op o_add pe_int (pe_op o_mod (pe_callTy cr_int rfl T.f_int (by decide +kernel) (pa_cons (pe_op o_add (pv 5) (by exact pe_cal (c_l_draw T) hr (by decide) rfl pass0 (pa_cons (pv 0) (pa_cons pe_int pa_nil)))) pa_nil)) pe_int)) pa_nil)) (pg_name (i := 8) sc_l_names.nd rfl (Or.inl rfl)) (pss_one (ps_set (i := 6) sc_l_names.nd rfl (Or.inl rfl) (pe_op o_addS (pv 6) (pe_ix ix_str (pv 3) (pe_op o_mod (pe_callTy cr_int rfl T.f_int (by decide +kernel) (pa_cons (pe_op o_add (pe_op o_add (pv 7) (pv 8)) (by exact pe_cal (c_l_draw T) hr (by decide) rfl pass0 (pa_cons (pv 0) (pa_cons pe_int pa_nil)))) pa_nil)) pe_int) (fun _ _ => rfl))))))
  (pss_cons (ps_if (pt_cmpR op_in_seq (pv 6) (pv 4) rfl) (pss_one (ps_set (i := 6) sc_l_names.nd rfl (Or.inl rfl) (pe_op o_addS (pe_slice sl_str (pv 6) po_none (po_some pe_int)) pe_str))) pss_nil)
  (pss_one (ps_if (pt_cmpR op_notIn_seq (pv 6) (pv 2) rfl) (pss_one (ps_expr (pe_bm PySem.F.plainAttrs_list PySem.F.slot_list_append PySem.F.type_list_append mt_append (pv 2) (pa_cons (pv 6) pa_nil)))) pss_nil))))))
  (pss_one (ps_ret (pv 2)))))))), ?_⟩
    dsimp only [cxOf, Cx.nox]
    repeat walk_at "st"
    intro l H1 hl e1 h1
    repeat walk_at "st"
    intro w1 H2 hw1 e2 h2
    repeat walk_at "st"
    intro w2 H3 hw2 e3 h3
    repeat walk_at "st"
    refine k_cat (e3.get h2) h3 (by rw [sizeLine_eq]; decide) fun wl H4 hwl e4 h4 => ?_
    repeat walk_at "st"
    have e04 : Ex H H4 := e1.trans (e2.trans (e3.trans e4))
    have l4 := (e2.trans (e3.trans e4)).get h1
    have P4 : Pool H4 p := by
      obtain ⟨o, ho, po⟩ := hP
      exact ⟨o, e04.get ho, po⟩
    have npl : l ≠ p := fun z => by
      obtain ⟨o, ho, po⟩ := hP
      rw [z, ho] at hl
      cases hl
    have npw : wl ≠ p := fun z => by
      obtain ⟨o, ho, po⟩ := hP
      rw [z, e1.trans (e2.trans e3) _ _ ho] at hwl
      cases hwl
    have nlw : wl ≠ l := fun z => by rw [z, (e2.trans e3).get h1] at hwl; cases hwl
    refine for_range (lo := 0) (LnI p l wl m H) ⟨none, none, none, none, [], rfl, ExB.of e04, P4, l4, h4, by simp, (fun _ h => nomatch h), Nat.le_refl _, fun h => absurd h (by decide)⟩ (fun i σ' H' hi ⟨v5, v6, v7, v8, zs, es, b, hP', hL, hW, nd, gd, hlen, hne⟩ => ?_) (fun σ' H' ⟨v5, v6, v7, v8, zs, es, b, hP', hL, hW, nd, gd, hlen, hne⟩ => ?_)
    · subst es
      have hi8 : i < 8 := by omega
      repeat walk_at "st"
      intro q1 H5 hq1 e5 h5
      repeat walk_at "st"
      obtain ⟨lw, hlw⟩ : ∃ lw : Int, atI [V.int 23, V.int 0, V.int 12, V.int 25, V.int 4, V.int 8, V.int 16, V.int 2] (0 + (i : Int)) = some (V.int lw) ∧ 0 ≤ lw := by
        have hx : i = 0 ∨ i = 1 ∨ i = 2 ∨ i = 3 ∨ i = 4 ∨ i = 5 ∨ i = 6 ∨ i = 7 := by omega
        rcases hx with h | h | h | h | h | h | h | h <;> subst h
        · exact ⟨23, rfl, by decide⟩
        · exact ⟨0, rfl, by decide⟩
        · exact ⟨12, rfl, by decide⟩
        · exact ⟨25, rfl, by decide⟩
        · exact ⟨4, rfl, by decide⟩
        · exact ⟨8, rfl, by decide⟩
        · exact ⟨16, rfl, by decide⟩
        · exact ⟨2, rfl, by decide⟩
      refine k_ixL (.inl (.inl h5)) hlw.1 ?_
      repeat walk_at "st"
      have P5 : Pool H5 p := by
        obtain ⟨o, ho, po⟩ := hP'
        exact ⟨o, e5.get ho, po⟩
      refine ⟨p, 4, rfl, P5, by decide, fun r H6 r0 r4 P6 b6 => ?_⟩
      repeat walk_at "st"
      have l6 := b6 _ _ npl (e5.get hL)
      have w6 := b6 _ _ npw (e5.get hW)
      have b06 : ExB p H H6 := b.trans ((ExB.of e5).trans b6)
      have hz0 : LetZ ("" : Str) 0 := ⟨rfl, fun c hc => nomatch (show c ∈ ([] : List Nat) from hc)⟩
      have hN : 1 ≤ (1 + (0 + (i : Int) + r) % 4).toNat ∧ (1 + (0 + (i : Int) + r) % 4).toNat ≤ 4 := by omega
      generalize (1 + (0 + (i : Int) + r) % 4).toNat = N at hN
      refine for_range (lo := 0) (LnJ p l wl m (0 + (i : Int)) lw H zs) ⟨v8, "", rfl, b06, P6, l6, w6, hz0⟩ (fun j σ' H7 hj ⟨v8, z, es, b7, P7, l7, w7, hz⟩ => ?_) (fun σ' H8 ⟨v8, z, es, b8, P8, hL8, hW8, hz⟩ => ?_)
      · subst es
        repeat walk_at "st"
        refine ⟨p, 26, rfl, P7, by decide, fun r H8 r0 r26 P8 b8 => ?_⟩
        repeat walk_at "st"
        have hx : 0 ≤ (lw + (0 + (j : Int)) + r) % 26 ∧ (lw + (0 + (j : Int)) + r) % 26 < 26 := ⟨Int.emod_nonneg _ (by decide), Int.emod_lt_of_pos _ (by decide)⟩
        obtain ⟨c, hc, lc⟩ := abc_at hx.1 hx.2
        refine ⟨abc, _, c, rfl, rfl, by rw [sizeLine_eq]; decide, hc, ?_⟩
        refine k_addS (by rw [hz.1, sizeLine_eq]; show j + 1 ≤ _; omega) ?_
        exact ⟨_, _, rfl, b7.trans b8, P8, b8 _ _ npl l7, b8 _ _ npw w7, hz.snoc lc⟩
      · subst es
        repeat walk_at "st"
        refine k_in (xs := notNames.map V.str) (.inl (.inl (.inl hW8))) rfl (by decide +kernel) ?_
        rw [if_neg (by decide)]
        cases hin0 : inV (.str z) (notNames.map V.str) with
        | true =>
          repeat walk_at "st"
          obtain ⟨c, lc, hcut⟩ := cut1 hz hN.1
          refine ⟨z, rfl, by rw [hz.1, sizeLine_eq]; omega, ?_⟩
          rw [hcut]
          repeat walk_at "st"
          refine k_addS (by rw [sizeLine_eq]; show 1 + 1 ≤ _; decide) ?_
          repeat walk_at "st"
          refine k_in (xs := zs.map V.str) (.inl (.inl (.inl hL8))) rfl (flat_str zs) ?_
          rw [if_pos rfl, inV_str]
          by_cases hin : (⟨#[c]⟩ ++ "q" : Str) ∈ zs
          · rw [decide_eq_true hin]
            repeat walk_at "st"
            exact ⟨_, _, _, _, zs, rfl, b8, P8, hL8, hW8, nd, gd, by omega, fun _ z => by rw [z] at hin; cases hin⟩
          · rw [decide_eq_false hin]
            repeat walk_at "st"
            intro H9 b9 h9
            repeat walk_at "st"
            have e9 : zs.map V.str ++ [V.str ((⟨#[c]⟩ ++ "q" : Str))] = (zs ++ [(⟨#[c]⟩ ++ "q" : Str)]).map V.str := by rw [List.map_append]; rfl
            rw [e9] at h9
            refine ⟨_, _, _, _, zs ++ [(⟨#[c]⟩ ++ "q" : Str)], rfl, ?_, ?_, h9, b9 _ _ nlw hW8, ?_, ?_, by rw [List.length_append]; simp; omega, fun _ => by simp⟩
            · exact fun a o hne ha => b9 _ _ (fun z => by rw [z, hl] at ha; cases ha) (b8 a o hne ha)
            · obtain ⟨o, ho, po⟩ := P8
              exact ⟨o, b9 _ _ (Ne.symm npl) ho, po⟩
            · refine List.nodup_append.mpr ⟨nd, by simp, fun x hx y hy e => ?_⟩
              have : y = (⟨#[c]⟩ ++ "q" : Str) := by simpa using hy
              subst this
              exact hin (e ▸ hx)
            · intro y hy
              rcases List.mem_append.mp hy with q | q
              · exact gd y q
              · have : y = (⟨#[c]⟩ ++ "q" : Str) := by simpa using q
                rw [this]
                exact q_ok lc
        | false =>
          repeat walk_at "st"
          refine k_in (xs := zs.map V.str) (.inl (.inl (.inl hL8))) rfl (flat_str zs) ?_
          rw [if_pos rfl, inV_str]
          by_cases hin : z ∈ zs
          · rw [decide_eq_true hin]
            repeat walk_at "st"
            exact ⟨_, _, _, _, zs, rfl, b8, P8, hL8, hW8, nd, gd, by omega, fun _ z => by rw [z] at hin; cases hin⟩
          · rw [decide_eq_false hin]
            repeat walk_at "st"
            intro H9 b9 h9
            repeat walk_at "st"
            have e9 : zs.map V.str ++ [V.str (z)] = (zs ++ [z]).map V.str := by rw [List.map_append]; rfl
            rw [e9] at h9
            refine ⟨_, _, _, _, zs ++ [z], rfl, ?_, ?_, h9, b9 _ _ nlw hW8, ?_, ?_, by rw [List.length_append]; simp; omega, fun _ => by simp⟩
            · exact fun a o hne ha => b9 _ _ (fun z => by rw [z, hl] at ha; cases ha) (b8 a o hne ha)
            · obtain ⟨o, ho, po⟩ := P8
              exact ⟨o, b9 _ _ (Ne.symm npl) ho, po⟩
            · refine List.nodup_append.mpr ⟨nd, by simp, fun x hx y hy e => ?_⟩
              have : y = z := by simpa using hy
              subst this
              exact hin (e ▸ hx)
            · intro y hy
              rcases List.mem_append.mp hy with q | q
              · exact gd y q
              · have : y = z := by simpa using q
                rw [this]
                exact name_ok hz hN.1 hN.2 hin0
    · subst es
      repeat walk_at "st"
      exact k H' l zs b hP' hl hL nd gd hlen fun h => hne (by omega)
end


/-! ### places that are drawn -/
theorem nodup_le : ∀ {l1 l2 : List Int}, l1.Nodup → (∀ x ∈ l1, x ∈ l2) → l1.length ≤ l2.length
  | [], _, _, _ => Nat.zero_le _
  | a :: l, l2, nd, h => by
    rw [List.nodup_cons] at nd
    have ha := h a (List.mem_cons_self ..)
    have ih := nodup_le (l2 := l2.erase a) nd.2 fun x hx => (List.mem_erase_of_ne (fun (z : x = a) => nd.1 (z ▸ hx))).mpr (h x (List.mem_cons_of_mem _ hx))
    rw [List.length_erase_of_mem ha] at ih
    have : 0 < l2.length := List.length_pos_of_mem ha
    rw [List.length_cons]
    omega
def fPl (b : Int) (i : Nat) : Int := (b + i) % 9999 + 1
theorem inV_int (z : Int) (zs : List Int) : inV (.int z) (zs.map V.int) = decide (z ∈ zs) := by
  unfold inV
  by_cases h : z ∈ zs
  · rw [decide_eq_true h, List.any_eq_true]
    exact ⟨.int z, List.mem_map.mpr ⟨z, h, rfl⟩, by simp [eqV]⟩
  · rw [decide_eq_false h, List.any_eq_false]
    intro v hv
    obtain ⟨y, hy, rfl⟩ := List.mem_map.mp hv
    intro e
    have : y = z := by simpa [eqV] using e
    exact h (this ▸ hy)
theorem flat_int (zs : List Int) : (zs.map V.int).all flatV = true := by
  rw [List.all_eq_true]
  intro v hv
  obtain ⟨y, _, rfl⟩ := List.mem_map.mp hv
  rfl
/-- after t turns -/
def Turned (L : List Int) (t : Nat) (x : Int) : Prop := (1 ≤ x ∧ x ≤ 9999 ∧ x ∉ L) ∨ (1 ≤ x ∧ ∃ b : Int, (t = 0 → x = b) ∧ (∀ u, t = u + 1 → x = fPl b u) ∧ ∀ i, i + 1 < t → fPl b i ∈ L)
theorem Turned.stay {L : List Int} {t : Nat} {x : Int} (h : Turned L t x) (h1 : ¬ 9999 < x) (h2 : x ∉ L) : Turned L (t + 1) x := by
  rcases h with h | ⟨h, _⟩
  · exact .inl h
  · exact .inl ⟨h, by omega, h2⟩
theorem Turned.next {L : List Int} {t : Nat} {x : Int} (h : Turned L t x) (hc : 9999 < x ∨ x ∈ L) : Turned L (t + 1) (x % 9999 + 1) := by
  rcases h with ⟨h1, h2, h3⟩ | ⟨h1, b, h2, h3, h4⟩
  · rcases hc with z | z
    · omega
    · exact absurd z h3
  · refine .inr ⟨by omega, b, fun z => by omega, fun u hu => ?_, fun i hi => ?_⟩
    · obtain rfl : u = t := by omega
      cases u with
      | zero =>
        rw [h2 rfl]
        unfold fPl
        simp
      | succ v =>
        have := h3 v rfl
        rw [this]
        unfold fPl
        omega
    · by_cases e : i + 1 < t
      · exact h4 i e
      · obtain rfl : t = i + 1 := by omega
        have := h3 i rfl
        rcases hc with z | z
        · unfold fPl at this
          omega
        · rw [← this]; exact z
theorem Turned.done {L : List Int} {x : Int} (h : Turned L 99 x) (hl : L.length ≤ 90) : 1 ≤ x ∧ x ≤ 9999 ∧ x ∉ L := by
  rcases h with h | ⟨_, b, _, _, h4⟩
  · exact h
  · exfalso
    have nd : ((List.range 98).map (fPl b)).Nodup := by
      rw [List.nodup_iff_pairwise_ne, List.pairwise_map]
      have p : (List.range 98).Pairwise (fun a b => a < b ∧ b < 98) := by
        rw [List.pairwise_iff_getElem]
        intro i j hi hj hij
        rw [List.getElem_range, List.getElem_range]
        rw [List.length_range] at hj
        exact ⟨hij, hj⟩
      exact p.imp fun {a c} h e => by
        unfold fPl at e
        omega
    have := nodup_le nd fun y hy => by
      obtain ⟨i, hi, rfl⟩ := List.mem_map.mp hy
      exact h4 i (by have := List.mem_range.mp hi; omega)
    rw [List.length_map, List.length_range] at this
    omega
def spLPlaces (K : PySem.W.Frag) : Sp := fun vs H Q _ => ∃ (p : Addr) (m : Int), vs = [.ref p, .int m] ∧ Pool H p ∧ 0 ≤ m ∧ m ≤ 70 ∧
  ∀ H' l (ps : List Int), ExB p H H' → Pool H' p → H l = none → H' l = some (.lst ((0 :: ps).map V.int)) → ps.length = m.toNat → ((0 : Int) :: ps).Nodup → (∀ q ∈ ps, 1 ≤ q ∧ q ≤ 9999) → Q (.ref l) H'
def PlI (p l : Addr) (m : Int) (H : Hp) (i : Nat) (σ : L2.St) (H' : Hp) : Prop := ∃ (v3 v4 v5 : Option V) (ps : List Int), σ = [some (.ref p), some (.int m), some (.ref l), v3, v4, v5] ∧ ExB p H H' ∧ Pool H' p ∧ H' l = some (.lst (((0 : Int) :: ps).map V.int)) ∧ ps.length = i ∧ ((0 : Int) :: ps).Nodup ∧ (∀ q ∈ ps, 1 ≤ q ∧ q ≤ 9999)
def PlJ (p l : Addr) (m k : Int) (H9 : Hp) (L : List Int) (t : Nat) (σ : L2.St) (H' : Hp) : Prop := ∃ (x : Int) (v5 : Option V), σ = [some (.ref p), some (.int m), some (.ref l), some (.int k), some (.int x), v5] ∧ H' = H9 ∧ Turned L t x
section
variable {P : Program} {w : World} {K : PySem.W.Frag} {mg : Str → Option Value} {base : Heap}
theorem c_l_places (T : Tx w K mg) : Cal P w K mg base CX0 2 "_law_places" ["pool", "many"] (spLPlaces K) := by
  refine cal_mk T.D_l_places T.m__law_places sc_l_places (fun _ _ _ _ _ _ us hl => match us, hl with | [_, _], _ => rfl) (fun vs H Q E h => ?_) (fun f cdv A outer s H vs Q E hr h => ?_)
  · obtain ⟨p, m, rfl, _⟩ := h
    rfl
  · obtain ⟨p, m, rfl, hP, hm0, hm8, k⟩ := h
    refine ⟨_, ((pss_cons (ps_set (i := 2) sc_l_places.nd rfl (Or.inl rfl) (pe_lst (pa_cons pe_int pa_nil)))
  (pss_cons (ps_for PassesOwn.never rfl (pi_range1 rfl T.f_range (pa_cons (pv 1) pa_nil)) (pg_name (i := 3) sc_l_places.nd rfl (Or.inl rfl)) (pss_cons (ps_set (i := 4) sc_l_places.nd rfl (Or.inl rfl) (pe_op o_add (pe_ix (ix_listK (K := K) rfl) (pe_lst (pa_cons pe_int (pa_cons pe_int (pa_cons pe_int (pa_cons pe_int (pa_cons pe_int (pa_cons pe_int (pa_cons pe_int (pa_cons pe_int (pa_cons pe_int (pa_cons pe_int pa_nil))))))))))) (pe_op o_mod (pe_callTy cr_int rfl T.f_int (by decide +kernel) (pa_cons (pv 3) pa_nil)) pe_int) (fun _ _ => rfl)) (pe_op o_mul pe_int (pe_op o_fdiv (pv 3) pe_int))))
  (pss_cons (ps_set (i := 4) sc_l_places.nd rfl (Or.inl rfl) (pe_op o_add (pe_op o_add (pv 4) (by exact pe_cal (c_l_draw T) hr (by decide) rfl pass0 (pa_cons (pv 0) (pa_cons pe_int pa_nil)))) (pe_op o_mul pe_int (by exact pe_cal (c_l_draw T) hr (by decide) rfl pass0 (pa_cons (pv 0) (pa_cons pe_int pa_nil))))))
  (pss_cons (ps_set (i := 4) sc_l_places.nd rfl (Or.inl rfl) (pe_op o_add (pv 4) (pe_op o_mul pe_int (by exact pe_cal (c_l_draw T) hr (by decide) rfl pass0 (pa_cons (pv 0) (pa_cons pe_int pa_nil))))))
  (pss_cons (ps_for PassesOwn.never rfl (pi_range1 rfl T.f_range (pa_cons pe_int pa_nil)) (pg_name (i := 5) sc_l_places.nd rfl (Or.inl rfl)) (pss_one (ps_if (pw_or (pt_cmpR o_gt (pv 4) pe_int (nomark _)) (pw_or1 (pt_cmpR op_in_seq (pv 4) (pv 2) rfl))).pt (pss_one (ps_set (i := 4) sc_l_places.nd rfl (Or.inl rfl) (pe_op o_add (pe_op o_mod (pe_callTy cr_int rfl T.f_int (by decide +kernel) (pa_cons (pv 4) pa_nil)) pe_int) pe_int))) pss_nil)))
  (pss_one (ps_expr (pe_bm PySem.F.plainAttrs_list PySem.F.slot_list_append PySem.F.type_list_append mt_append (pv 2) (pa_cons (pv 4) pa_nil)))))))))
  (pss_one (ps_ret (pv 2)))))), ?_⟩
    dsimp only [cxOf, Cx.nox]
    repeat walk_at "st"
    intro l H1 hl e1 h1
    repeat walk_at "st"
    have P1 : Pool H1 p := by
      obtain ⟨o, ho, po⟩ := hP
      exact ⟨o, e1.get ho, po⟩
    have npl : l ≠ p := fun z => by
      obtain ⟨o, ho, po⟩ := hP
      rw [z, ho] at hl
      cases hl
    refine for_range (lo := 0) (PlI p l m H) ⟨none, none, none, [], rfl, ExB.of e1, P1, h1, rfl, by simp, (fun _ h => nomatch h)⟩ (fun i σ' H' hi ⟨v3, v4, v5, ps, es, b, hP', hL, hlen, nd, rg⟩ => ?_) (fun σ' H' ⟨v3, v4, v5, ps, es, b, hP', hL, hlen, nd, rg⟩ => ?_)
    · subst es
      have hi8 : i < 70 := by omega
      repeat walk_at "st"
      intro q1 H5 hq1 e5 h5
      repeat walk_at "st"
      obtain ⟨bv, hb, hb1⟩ : ∃ bv : Int, atI [V.int 3, V.int 7, V.int 1, V.int 12, V.int 9999, V.int 40, V.int 5, V.int 2, V.int 9, V.int 6] ((0 + (i : Int)) % 10) = some (V.int bv) ∧ 1 ≤ bv := by
        have hx : (0 + (i : Int)) % 10 = 0 ∨ (0 + (i : Int)) % 10 = 1 ∨ (0 + (i : Int)) % 10 = 2 ∨ (0 + (i : Int)) % 10 = 3 ∨ (0 + (i : Int)) % 10 = 4 ∨ (0 + (i : Int)) % 10 = 5 ∨ (0 + (i : Int)) % 10 = 6 ∨ (0 + (i : Int)) % 10 = 7 ∨ (0 + (i : Int)) % 10 = 8 ∨ (0 + (i : Int)) % 10 = 9 := by omega
        rcases hx with h | h | h | h | h | h | h | h | h | h <;> rw [h]
        · exact ⟨3, rfl, by decide⟩
        · exact ⟨7, rfl, by decide⟩
        · exact ⟨1, rfl, by decide⟩
        · exact ⟨12, rfl, by decide⟩
        · exact ⟨9999, rfl, by decide⟩
        · exact ⟨40, rfl, by decide⟩
        · exact ⟨5, rfl, by decide⟩
        · exact ⟨2, rfl, by decide⟩
        · exact ⟨9, rfl, by decide⟩
        · exact ⟨6, rfl, by decide⟩
      refine k_ixL (.inl (.inl h5)) hb ?_
      repeat walk_at "st"
      refine k_div ⟨by decide, by decide⟩ ?_
      repeat walk_at "st"
      have P5 : Pool H5 p := by
        obtain ⟨o, ho, po⟩ := hP'
        exact ⟨o, e5.get ho, po⟩
      refine ⟨p, 60, rfl, P5, by decide, fun r1 H6 r10 r160 P6 b6 => ?_⟩
      repeat walk_at "st"
      refine ⟨p, 60, rfl, P6, by decide, fun r2 H7 r20 r260 P7 b7 => ?_⟩
      repeat walk_at "st"
      refine ⟨p, 3, rfl, P7, by decide, fun r3 H8 r30 r360 P8 b8 => ?_⟩
      repeat walk_at "st"
      have b58 : ExB p H5 H8 := b6.trans (b7.trans b8)
      have l8 := b58 _ _ npl (e5.get hL)
      have b08 : ExB p H H8 := b.trans ((ExB.of e5).trans b58)
      have hx1 : 1 ≤ bv + 11 * ((0 + (i : Int)) / 10) + r1 + 60 * r2 + 3600 * r3 := by omega
      generalize bv + 11 * ((0 + (i : Int)) / 10) + r1 + 60 * r2 + 3600 * r3 = x0 at hx1
      refine for_range (lo := 0) (PlJ p l m (0 + (i : Int)) H8 ((0 : Int) :: ps)) ⟨x0, v5, rfl, rfl, .inr ⟨hx1, x0, fun _ => rfl, fun u z => by omega, fun i z => by omega⟩⟩ (fun t σ' H9 ht ⟨x, v5, es, eh, tu⟩ => ?_) (fun σ' H9 ⟨x, v5, es, eh, tu⟩ => ?_)
      · subst es eh
        repeat walk_at "st"
        by_cases c1 : 9999 < x
        · refine k_iteT c1 ?_
          repeat walk_at "st"
          exact ⟨_, _, rfl, rfl, tu.next (.inl c1)⟩
        · refine k_iteF c1 ?_
          repeat walk_at "st"
          refine k_in (xs := ((0 : Int) :: ps).map V.int) (.inl (.inl (.inl l8))) rfl (flat_int _) ?_
          rw [if_neg (by decide), inV_int]
          by_cases c2 : x ∈ (0 : Int) :: ps
          · rw [decide_eq_true c2]
            repeat walk_at "st"
            exact ⟨_, _, rfl, rfl, tu.next (.inr c2)⟩
          · rw [decide_eq_false c2]
            repeat walk_at "st"
            exact ⟨_, _, rfl, rfl, tu.stay c1 c2⟩
      · subst es eh
        obtain ⟨dn1, dn2, dn3⟩ := tu.done (by rw [List.length_cons]; omega)
        repeat walk_at "st"
        intro H10 b10 h10
        have e10 : ((0 : Int) :: ps).map V.int ++ [V.int x] = ((0 : Int) :: (ps ++ [x])).map V.int := by
          rw [List.map_cons, List.map_cons, List.map_append]
          rfl
        rw [e10] at h10
        refine ⟨_, _, _, ps ++ [x], rfl, ?_, ?_, h10, by rw [List.length_append]; simp; omega, ?_, ?_⟩
        · exact fun a o hne ha => b10 _ _ (fun z => by rw [z, hl] at ha; cases ha) (b08 a o hne ha)
        · obtain ⟨o, ho, po⟩ := P8
          exact ⟨o, b10 _ _ (Ne.symm npl) ho, po⟩
        · have : (0 : Int) :: (ps ++ [x]) = ((0 : Int) :: ps) ++ [x] := rfl
          rw [this]
          refine List.nodup_append.mpr ⟨nd, by simp, fun y hy z hz e => ?_⟩
          have : z = x := by simpa using hz
          subst this
          exact dn3 (e ▸ hy)
        · intro y hy
          rcases List.mem_append.mp hy with q | q
          · exact rg y q
          · have : y = x := by simpa using q
            rw [this]
            exact ⟨dn1, dn2⟩
    · subst es
      repeat walk_at "st"
      exact k H' l ps b hP' hl hL hlen nd rg
end


/-! ### _law_made -/
theorem unlock_ex {H H' : Hp} {a : Addr} {u : HO} {od : Obj} (hd : H a = some u) (e : Ex (upd H a (.frz od u)) H') : Ex H (upd H' a u) := fun x o h => by
  by_cases hx : x = a
  · rw [hx, upd_same, ← h, hx, hd]
  · rw [upd_ne hx]
    exact e x o (by rw [upd_ne hx]; exact h)
theorem unlock_exB {H H' : Hp} {a l : Addr} {u : HO} {od : Obj} (hd : H a = some u) (e : ExB l (upd H a (.frz od u)) H') : ExB l H (upd H' a u) := fun x o hl h => by
  by_cases hx : x = a
  · rw [hx, upd_same, ← h, hx, hd]
  · rw [upd_ne hx]
    exact e x o hl (by rw [upd_ne hx]; exact h)
theorem lock_exB {H : Hp} {a : Addr} {o : HO} : ExB a H (upd H a o) := ExB.upd
theorem paired_of {α : Type} {G : α → V → Prop} : ∀ {l : List α} {ys : List V}, l.length = ys.length → (∀ (i : Nat) (a : α) (y : V), l[i]? = some a → ys[i]? = some y → G a y) → Paired G l ys
  | [], [], _, _ => .nil
  | [], y :: ys, h, _ => by simp at h
  | a :: l, [], h, _ => by simp at h
  | a :: l, y :: ys, h, k => .cons (k 0 a y rfl rfl) (paired_of (by simpa using h) fun i b z h1 h2 => k (i + 1) b z (by simpa using h1) (by simpa using h2))
theorem paired_range {α : Type} {F : Nat → V → Prop} {G : α → V → Prop} {l : List α} {ys : List V} {n : Nat} (hn : n = l.length) (pr : Paired F (List.range n) ys) (h : ∀ i y a, l[i]? = some a → F i y → G a y) : Paired G l ys := by
  subst hn
  have hl := Paired.length pr
  rw [List.length_range] at hl
  refine paired_of hl fun i a y h1 h2 => ?_
  have hi := (List.getElem?_eq_some_iff.mp h1).1
  obtain ⟨z, e, f⟩ := Paired.get' pr (i := i) (x := i) (by rw [List.getElem?_range hi])
  rw [h2] at e
  cases e
  exact h i y a h1 f
theorem paired_rev {α β : Type} {G : α → β → Prop} {l : List α} {ys : List β} (p : Paired G l ys) : Paired G l.reverse ys.reverse := by
  induction p with
  | nil => exact .nil
  | cons h _ ih =>
    rw [List.reverse_cons, List.reverse_cons]
    exact Paired.snoc' h ih
def TNm (H : Hp) (n : Str × Int) (v : V) : Prop := ∃ t, v = V.ref t ∧ H t = some (.tup [.str n.1, .int n.2])
theorem dp_nms {K : PySem.W.Frag} {H : Hp} {ns : List (Str × Int)} {vs : List V} (p : Paired (TNm H) ns vs) : DpAll K H vs (ns.map dName) := by
  induction p with
  | nil => exact .nil
  | cons h _ ih =>
    obtain ⟨t, rfl, ht⟩ := h
    exact .cons (.tup (.inl (.inl ht)) (.cons (.str _) (.cons (.int _) .nil))) ih
mutual
/-- no list within -/
def noL : PyData → Bool
  | .list _ => false
  | .tuple ds => noLs ds
  | .dict _ => false
  | _ => true
def noLs : List PyData → Bool
  | [] => true
  | d :: ds => noL d && noLs ds
end
theorem exT_sqT {K : PySem.W.Frag} {H H' : Hp} (e : ExT H H') {a : Addr} {xs : List V} (h : SqT K H a xs) : SqT K H' a xs := by
  rcases h with (h | ⟨o, h⟩) | h
  · exact .inl (.inl (e _ _ (fun _ z => nomatch z) h))
  · exact .inl (.inr ⟨o, e _ _ (fun _ z => nomatch z) h⟩)
  · exact .inr h
mutual
theorem Dp_exT {K : PySem.W.Frag} {H H' : Hp} (e : ExT H H') : ∀ (d : PyData) (v : V), noL d = true → Dp K H v d → Dp K H' v d
  | .none, _, _, h => by cases h; exact .non
  | .bool b, _, _, h => by cases h; exact .bl b
  | .int i, _, _, h => by cases h; exact .int i
  | .str x, _, _, h => by cases h; exact .str x
  | .list ds, _, n, _ => by simp [noL] at n
  | .tuple ds, _, n, h => by
    cases h with
    | tup hs ha => exact .tup (exT_sqT e hs) (DpAll_exT e ds _ (by simpa [noL] using n) ha)
  | .dict _, _, _, h => by cases h
theorem DpAll_exT {K : PySem.W.Frag} {H H' : Hp} (e : ExT H H') : ∀ (ds : List PyData) (vs : List V), noLs ds = true → DpAll K H vs ds → DpAll K H' vs ds
  | [], _, _, h => by cases h; exact .nil
  | d :: ds, _, n, h => by
    cases h with
    | cons h1 h2 =>
      have n2 : noL d = true ∧ noLs ds = true := by simpa [noLs] using n
      exact .cons (Dp_exT e d _ n2.1 h1) (DpAll_exT e ds _ n2.2 h2)
end
theorem noL_names (ns : List (Str × Int)) : noL (dNames ns) = true := by
  unfold dNames
  simp only [noL]
  induction ns with
  | nil => rfl
  | cons n ns ih => rw [List.map_cons, noLs, ih]; simp [dName, noL, noLs]
theorem noL_cells (ns : List Cell) : noL (dCells ns) = true := by
  unfold dCells
  simp only [noL]
  induction ns with
  | nil => rfl
  | cons n ns ih => rw [List.map_cons, noLs, ih]; simp [dCell, noL, noLs]
theorem HeapAt.exT {K : PySem.W.Frag} {H H' : Hp} (e : ExT H H') {p : Addr} {ns : List (Str × Int)} {cs : List Cell} (h : HeapAt K H p ns cs) : HeapAt K H' p ns cs :=
  let ⟨dx, tn, tc, d, kvs, a⟩ := h
  ⟨dx, tn, tc, d, kvs, e _ _ (fun _ z => nomatch z) a.ins, Dp_exT e _ _ (noL_names ns) a.nms, Dp_exT e _ _ (noL_cells cs) a.cls, e _ _ (fun _ z => nomatch z) a.dic, a.rows.mono fun c v h => TRow.exT e h, a.lc, a.ln, a.co, a.no, a.sn, a.sc⟩
def spMade (K : PySem.W.Frag) : Sp := fun vs H Q _ => ∃ (a b : Addr) (tu : Bool) (ns : List (Str × Int)) (cs : List Cell), vs = [.ref a, .ref b, .bl tu] ∧ DictN H a ns ∧ (∀ n, n ∈ ns → NmIn n) ∧ ns.length ≤ 20 ∧ DictC H b cs ∧ (∀ c, c ∈ cs → CellIn c) ∧ cs.length ≤ 60 ∧ a ≠ b ∧
  ∀ H' p ns' cs', Ex H H' → HeapAt K H' p ns' cs' → (∀ n, n ∈ ns' ↔ n ∈ ns) → (∀ c, c ∈ cs' ↔ c ∈ cs) → Q (.ref p) H'
section
variable {P : Program} {w : World} {K : PySem.W.Frag} {mg : Str → Option Value} {base : Heap}
theorem c_l_made (T : Tx w K mg) : Cal P w K mg base CX0 6 "_law_made" ["names", "cells", "turned"] (spMade K) := by
  refine cal_mk T.D_l_made T.m__law_made sc_l_made (fun _ _ _ _ _ _ us hl => match us, hl with | [_, _, _], _ => rfl) (fun vs H Q E h => ?_) (fun f cdv A outer s H vs Q E hr h => ?_)
  · obtain ⟨a, b, tu, ns, cs, rfl, _⟩ := h
    rfl
  · obtain ⟨a, b, tu, ns, cs, rfl, hN, hNi, hnl, hC, hCi, hcl, hab, k⟩ := h
    obtain ⟨kvs, hk, hrw, nd⟩ := hC
    have hu := hu_of hr
    refine ⟨_, ((pss_cons (ps_par (i := 3) (j := 4) rfl sc_l_made.nd rfl rfl (by decide) rfl rfl (pa_cons (pe_lock (pe_lc (own := [("name", 5)]) rfl sc_l_made.nd (pi_keys (pv 0)) (blkOk_by (N := ["names", "cells", "turned", "pairs", "rows", "name", "place", "mark", "link", "share", "heap"]) (sc := defScope s_l_made) (by decide +kernel)) (fun _ _ _ _ _ => (pg_name (i := 5) sc_l_made.nd rfl (Or.inl rfl))) (fun _ _ _ _ _ => pts_nil) (fun _ _ _ _ _ => (pe_tup (pa_cons (pv 5) (pa_cons (pe_dget hu (pv 0) (pv 5) (fun _ _ => rfl)) pa_nil)))))) (pa_cons (pe_lst pa_nil) pa_nil)) rfl)
  (pss_cons (ps_lock (ps_for PassesOwn.never rfl (pi_keys (pv 1)) (pg_name (i := 6) sc_l_made.nd rfl (Or.inl rfl)) (pss_cons (ps_asg (pe_dget hu (pv 1) (pv 6) (fun _ _ => rfl)) (pg_tup (n := 3) rfl (pgs_cons (pg_name (i := 7) sc_l_made.nd rfl (Or.inl rfl)) (pgs_cons (pg_name (i := 8) sc_l_made.nd rfl (Or.inl rfl)) (pgs_cons (pg_name (i := 9) sc_l_made.nd rfl (Or.inl rfl)) pgs_nil)))))
  (pss_one (ps_expr (pe_bm PySem.F.plainAttrs_list PySem.F.slot_list_append PySem.F.type_list_append mt_append (pv 4) (pa_cons (pe_tup (pa_cons (pv 6) (pa_cons (pv 7) (pa_cons (pv 8) (pa_cons (pv 9) pa_nil))))) pa_nil)))))))
  (pss_cons (ps_if (pt_val (pv 2)) (pss_cons (ps_expr (pe_bm0 PySem.F.plainAttrs_list PySem.F.slot_list_reverse PySem.F.type_list_reverse mt_reverse (pv 3)))
  (pss_cons (ps_expr (pe_bm0 PySem.F.plainAttrs_list PySem.F.slot_list_reverse PySem.F.type_list_reverse mt_reverse (pv 4)))
  (pss_cons (ps_set (i := 10) sc_l_made.nd rfl (Or.inl rfl) (by exact pe_mak (m_Heap T) hr (by decide) rfl pass0 (pa_cons (pe_callTy cr_tupOf rfl T.f_tuple (by decide +kernel) (pa_cons (pv 3) pa_nil)) (pa_cons (pv 4) pa_nil))))
  (pss_cons (ps_expr (pe_bm PySem.F.plainAttrs_list PySem.F.slot_list_append PySem.F.type_list_append mt_append (pv 4) (pa_cons (pe_tup (pa_cons pe_int (pa_cons pe_str (pa_cons pe_int (pa_cons pe_int pa_nil))))) pa_nil)))
  (pss_one (ps_ret (pv 10))))))) pss_nil)
  (pss_cons (ps_set (i := 10) sc_l_made.nd rfl (Or.inl rfl) (by exact pe_mak (m_Heap T) hr (by decide) rfl pass0 (pa_cons (pv 3) (pa_cons (pe_callTy cr_tupOf rfl T.f_tuple (by decide +kernel) (pa_cons (pv 4) pa_nil)) pa_nil))))
  (pss_cons (ps_expr (pe_bm PySem.F.plainAttrs_list PySem.F.slot_list_append PySem.F.type_list_append mt_append (pv 3) (pa_cons (pe_tup (pa_cons pe_str (pa_cons pe_int pa_nil))) pa_nil)))
  (pss_one (ps_ret (pv 10))))))))), ?_⟩
    dsimp only [cxOf, Cx.nox]
    repeat walk_at "st"
    refine ⟨a, .dK (kvN ns), hN.1, trivial, fun od => ?_⟩
    repeat walk_at "st"
    refine ⟨_, rfl, a, od, rfl, .inl ⟨kvN ns, upd_same, ?_⟩⟩
    have hbu : upd H a (.frz od (.dK (kvN ns))) a = some (.frz od (.dK (kvN ns))) := upd_same
    have klen : (kvN ns).length = ns.length := List.length_map _
    refine lc_rel (walk_keys (kvs := kvN ns)) (fun _ => true) (fun i y H' => ∃ n t, ns[i]? = some n ∧ y = V.ref t ∧ H' t = some (.tup [.str n.1, .int n.2])) (by omega)
      (fun i y H H' e ⟨n, t, a, b, c⟩ => ⟨n, t, a, b, e _ _ (fun l z => nomatch z) c⟩) (fun H' e => e.get hbu) (fun i x H' H'' R1 R0 hi e y k1 k0 => ?_) (fun D H' vs hD e hL pr => ?_)
    · obtain ⟨rfl, kk, vv, y, rfl⟩ := y
      obtain ⟨n, hn⟩ : ∃ n, ns[i]? = some n := ⟨ns[i]'(by omega), List.getElem?_eq_getElem (by omega)⟩
      unfold kvN at y
      rw [List.getElem?_map, hn] at y
      cases y
      have hv := kvN_some hN.2 (List.mem_of_getElem? hn)
      have hl := e.get hbu
      refine ⟨rfl, ?_⟩
      repeat walk_at "st"
      refine k_dgetE (k := Sum.inr n.1) rfl (.inr ⟨od, hl⟩) hv ?_
      repeat walk_at "st"
      intro t H6 ht e6 h6
      exact k1 _ _ e6 rfl ⟨n, t, hn, rfl, h6⟩
    · have ha' := e.get hbu
      refine ⟨ha', ?_⟩
      have e1 := unlock_ex hN.1 e
      have nDa : D ≠ a := fun z => by rw [z, hbu] at hD; cases hD
      have hL1 : upd H' a (.dK (kvN ns)) D = some (.lst vs) := by rw [upd_ne nDa]; exact hL
      have pr1 : Paired (TNm (upd H' a (.dK (kvN ns)))) ns vs := by
        rw [filter_true] at pr
        refine paired_range (G := TNm (upd H' a (.dK (kvN ns)))) klen pr fun i y n hn ⟨n', t, h1, h2, h3⟩ => ?_
        rw [hn] at h1
        cases h1
        exact ⟨t, h2, by rw [upd_ne (ne_of h3 ha' (fun z => nomatch z))]; exact h3⟩
      have nD : H D = none := by rw [upd_ne nDa] at hD; exact hD
      generalize upd H' a (.dK (kvN ns)) = H1 at e1 hL1 pr1
      dsimp only
      repeat walk_at "st"
      intro l H2 hl e2 h2
      repeat walk_at "st"
      refine ⟨b, .dK kvs, (e1.trans e2).get hk, trivial, fun ob => ?_⟩
      repeat walk_at "st"
      refine ⟨_, rfl, b, ob, rfl, .inl ⟨kvs, upd_same, ?_⟩⟩
      have hb2 : upd H2 b (.frz ob (.dK kvs)) b = some (.frz ob (.dK kvs)) := upd_same
      have e12 : Ex H H2 := e1.trans e2
      have hbk := e12.get hk
      have nlb : l ≠ b := fun z => by rw [z, e1.get hk] at hl; cases hl
      have nDl : D ≠ l := fun z => by rw [← z, hL1] at hl; cases hl
      have nDb : D ≠ b := ne_of hL1 (e1.get hk) (fun z => nomatch z)
      have off : ∀ {x : Addr} {o : HO}, H2 x = some o → x ≠ b → upd H2 b (.frz ob (.dK kvs)) x = some o := fun {x o} h n => by rw [upd_ne n]; exact h
      refine for_it (walk_keys (kvs := kvs)) (fun i σ' H' => ∃ (v5 v6 v7 v8 v9 v10 : Option V) (ws : List V), σ' = [some (.ref a), some (.ref b), some (.bl tu), some (.ref D), some (.ref l), v5, v6, v7, v8, v9, v10] ∧ ExB l (upd H2 b (.frz ob (.dK kvs))) H' ∧ H' l = some (.lst ws) ∧ Paired (fun c v => TFull H' c v) (cs.take i) ws) ⟨none, none, none, none, none, none, [], rfl, ExB.of (Ex.refl _), off h2 nlb, .nil⟩ (fun i σ' H' _ ⟨_, _, _, _, _, _, _, _, bb, _⟩ => bb _ _ (Ne.symm nlb) hb2) (fun i x σ' H' H'' hi ⟨v5, v6, v7, v8, v9, v10, ws, es, bb, hlw, pw⟩ y => ?_) (fun σ' H' ⟨v5, v6, v7, v8, v9, v10, ws, es, bb, hlw, pw⟩ => ?_)
      · subst es
        obtain ⟨rfl, kk, vv, y, rfl⟩ := y
        obtain ⟨c, hc, hkk, _⟩ := Paired.get' hrw y
        dsimp only at hkk
        subst hkk
        have hat := hrw.val (kC c)
        rw [rowAt_mem nd (List.mem_of_getElem? hc)] at hat
        obtain ⟨vx, hv, t, rfl, ht⟩ := hat
        have hlk := bb _ _ (Ne.symm nlb) hb2
        have ht2 : H'' t = some (.tup (rowT c)) := bb _ _ (ne_of (e12.get ht) h2 (fun z => nomatch z)) (off (e12.get ht) (ne_of (e12.get ht) hbk (fun z => nomatch z)))
        have wlen : ws.length ≤ 60 := by
          have z1 := Paired.length pw
          rw [List.length_take] at z1
          omega
        unfold rowT at ht2
        repeat walk_at "st"
        refine k_dgetE (k := kC c) rfl (.inr ⟨ob, hlk⟩) hv ?_
        repeat walk_at "st"
        intro q H6 hq e6 h6
        have hL6 := e6.get hlw
        repeat walk_at "st"
        intro H7 b7 h7
        have xT := ExB.t b7 hL6
        refine ⟨_, _, _, _, _, _, _, rfl, bb.trans ((ExB.of e6).trans b7), h7, ?_⟩
        rw [List.take_add_one, hc]
        exact Paired.snoc' (TFull.exT xT ⟨q, rfl, h6⟩) (Paired.mapP pw fun a v z => TFull.exT ((Ex.t e6).trans xT) z)
      · subst es
        have hkl : kvs.length = cs.length := hrw.length
        rw [hkl, List.take_length] at pw
        have hlk := bb _ _ (Ne.symm nlb) hb2
        refine ⟨hlk, ?_⟩
        have b23 : ExB l H2 (upd H' b (.dK kvs)) := unlock_exB hbk bb
        have l3 : upd H' b (.dK kvs) l = some (.lst ws) := by rw [upd_ne nlb]; exact hlw
        have pw3 : Paired (fun c v => TFull (upd H' b (.dK kvs)) c v) cs ws := Paired.mapP pw fun c v ⟨t, h1, h2⟩ => ⟨t, h1, by rw [upd_ne (ne_of h2 hlk (fun z => nomatch z))]; exact h2⟩
        generalize upd H' b (.dK kvs) = H3 at b23 l3 pw3
        have nl : H l = none := e1.none hl
        have e03 : Ex H H3 := ExB.old e12 nl b23
        have D3 : H3 D = some (.lst vs) := b23 _ _ nDl (e2.get hL1)
        have pn3 : Paired (TNm H3) ns vs := Paired.mapP pr1 fun n v ⟨t, h1, h2'⟩ => ⟨t, h1, b23 _ _ (ne_of (e2.get h2') h2 (fun z => nomatch z)) (e2.get h2')⟩
        dsimp only
        repeat walk_at "st"
        cases tu
        · repeat walk_at "st"
          refine k_tupL (.inl (.inl l3)) fun t4 H4 ht4 e4 h4 => ?_
          repeat walk_at "st"
          refine MakeK.of fun q H5 dx hq e5 hq5 => ?_
          have e05 := (e03.trans e4).trans e5
          have nq : H q = none := (e03.trans e4).none hq
          refine ⟨q, D, t4, dx, ns, cs, rfl, hq5, ⟨vs, .inl (.inl (.inl ((e4.trans e5).get D3))), DpAll_ex (e4.trans e5) _ _ (dp_nms pn3), hNi, hN.2, hnl⟩, ⟨ws, .inr (.inl (.inl (e5.get h4))), DpAll_ex (e4.trans e5) _ _ (dp_cells pw3), hCi, nd, by omega⟩, fun H6 ns0 cs0 b6 hA mn mc => ⟨rfl, ?_⟩⟩
          have e06 : Ex H H6 := ExB.old e05 nq b6
          repeat walk_at "st"
          have D6 := b6 _ _ (ne_of ((e4.trans e5).get D3) hq5 (fun z => nomatch z)) ((e4.trans e5).get D3)
          repeat walk_at "st"
          intro t7 H7 ht7 e7 h7
          have D7 := e7.get D6
          have vlen : vs.length ≤ 20 := by
            have := Paired.length pn3
            omega
          repeat walk_at "st"
          intro H8 b8 h8
          repeat walk_at "st"
          exact k H8 q ns0 cs0 (ExB.old (e06.trans e7) nD b8) (HeapAt.exT (ExB.t b8 D7) (HeapAt.ex e7 hA)) mn mc
        · repeat walk_at "st"
          refine k_reverse D3 fun H4 b4 h4 => ?_
          have l4 := b4 _ _ (Ne.symm nDl) l3
          repeat walk_at "st"
          refine k_reverse l4 fun H5 b5 h5 => ?_
          have D5 := b5 _ _ nDl h4
          have xT : ExT H3 H5 := (ExB.t b4 D3).trans (ExB.t b5 l4)
          have pn5 : Paired (TNm H5) ns.reverse vs.reverse := Paired.mapP (paired_rev pn3) fun n v ⟨t, h1, h2⟩ => ⟨t, h1, xT _ _ (fun _ z => nomatch z) h2⟩
          have pw5 : Paired (fun c v => TFull H5 c v) cs.reverse ws.reverse := Paired.mapP (paired_rev pw3) fun c v h => TFull.exT xT h
          have e05 : Ex H H5 := ExB.old (ExB.old e03 nD b4) nl b5
          repeat walk_at "st"
          refine k_tupL (.inl (.inl D5)) fun t6 H6 ht6 e6 h6 => ?_
          repeat walk_at "st"
          refine MakeK.of fun q H7 dx hq e7 hq7 => ?_
          have nq : H q = none := (e05.trans e6).none hq
          have l7 := (e6.trans e7).get h5
          refine ⟨q, t6, l, dx, ns.reverse, cs.reverse, rfl, hq7, ⟨vs.reverse, .inr (.inl (.inl (e7.get h6))), DpAll_ex (e6.trans e7) _ _ (dp_nms pn5), fun n hn => hNi n (List.mem_reverse.mp hn), by rw [List.map_reverse]; exact (List.reverse_perm _).nodup_iff.mpr hN.2, by rw [List.length_reverse]; exact hnl⟩,
            ⟨ws.reverse, .inl (.inl (.inl l7)), DpAll_ex (e6.trans e7) _ _ (dp_cells pw5), fun c hc => hCi c (List.mem_reverse.mp hc), by rw [List.map_reverse]; exact (List.reverse_perm _).nodup_iff.mpr nd, by rw [List.length_reverse]; omega⟩, fun H8 ns0 cs0 b8 hA mn mc => ⟨rfl, ?_⟩⟩
          have e08 : Ex H H8 := ExB.old ((e05.trans e6).trans e7) nq b8
          have l8 := b8 _ _ (ne_of l7 hq7 (fun z => nomatch z)) l7
          have wlen : ws.reverse.length ≤ 60 := by
            have := Paired.length pw3
            rw [List.length_reverse]
            omega
          repeat walk_at "st"
          intro t9 H9 ht9 e9 h9
          have l9 := e9.get l8
          repeat walk_at "st"
          intro H10 b10 h10
          repeat walk_at "st"
          exact k H10 q ns0 cs0 (ExB.old (e08.trans e9) nl b10) (HeapAt.exT (ExB.t b10 l9) (HeapAt.ex e9 hA)) (fun n => (mn n).trans List.mem_reverse) (fun c => (mc c).trans List.mem_reverse)
end


/-! ### == and != of heaps -/
structure NeF (K : PySem.W.Frag) : Prop where
  ne : PySem.W.findIn K (.ref (hC K)) "__ne__" = some (some (.builtin "object.__ne__"))
  so : PySem.W.subIn K (.ref (hC K)) (.type "object") = some true
  nt : PySem.W.notFirst K (hC K) (.type "tuple") = true
  ni : PySem.W.notFirst K (hC K) (.type "int") = true
  kt : PySem.W.kitOne K (.type "tuple") (.ref (hC K)) = some false
  ki : PySem.W.kitOne K (.type "int") (.ref (hC K)) = some false
def neB (K : PySem.W.Frag) : Bool := decide (PySem.W.findIn K (.ref (hC K)) "__ne__" = some (some (.builtin "object.__ne__"))) && (decide (PySem.W.subIn K (.ref (hC K)) (.type "object") = some true) && (PySem.W.notFirst K (hC K) (.type "tuple") && (PySem.W.notFirst K (hC K) (.type "int") && (decide (PySem.W.kitOne K (.type "tuple") (.ref (hC K)) = some false) && decide (PySem.W.kitOne K (.type "int") (.ref (hC K)) = some false)))))
theorem neB_ok {K : PySem.W.Frag} (h : neB K = true) : NeF K := by
  unfold neB at h
  obtain ⟨h1, h⟩ := He.ba h
  obtain ⟨h2, h⟩ := He.ba h
  obtain ⟨h3, h⟩ := He.ba h
  obtain ⟨h4, h⟩ := He.ba h
  obtain ⟨h5, h6⟩ := He.ba h
  exact ⟨of_decide_eq_true h1, of_decide_eq_true h2, h3, h4, of_decide_eq_true h5, of_decide_eq_true h6⟩
def spHeqX (K : PySem.W.Frag) : Sp := fun vs H Q _ => ∃ (p : Addr) (y : V) (ns : List (Str × Int)) (cs : List Cell), vs = [.ref p, y] ∧ HeapAt K H p ns cs ∧
  ((∃ h ms ds, y = .ref h ∧ HeapAt K H h ms ds ∧ ∀ H', Ex H H' → Q (.bl (decide (ns = ms) && decide (cs = ds))) H') ∨ ∃ t, TyX K H y t ∧ PySem.W.kitOne K t (.ref (hC K)) = some false ∧ ∀ H', Ex H H' → Q (.bl false) H')
section
variable {P : Program} {w : World} {K : PySem.W.Frag} {mg : Str → Option Value} {base : Heap}
theorem me_Heap_eqX (Y : Ty P w K mg) : Met P w K mg base CX0 1 (hC K) "__eq__" ["self", "other"] (spHeqX K) := by
  have T := Y.T
  refine met_mk T.D_Heap_eq T.me_Heap___eq__ sc_Heap_eq (fun _ _ _ _ _ _ us hl => match us, hl with | [_, _], _ => rfl) (fun vs H Q E h => ?_) (fun f cdv A outer s H vs Q E hr h => ?_)
  · obtain ⟨p, y, ns, cs, rfl, _⟩ := h
    rfl
  · obtain ⟨p, y, ns, cs, rfl, hA, h⟩ := h
    obtain ⟨dx, tn, tc, d, kvs, hA1⟩ := id hA
    refine ⟨_, ((pss_cons (ps_if (pt_not (pt_val (pe_callB call_isi rfl T.f_isinstance (by decide +kernel) (pa_cons (pv 1) (pa_cons (by exact C8.pe_gc rfl T.c_Heap) pa_nil))))) (pss_one (ps_ret pe_bl)) pss_nil)
  (pss_one (ps_ret (pe_and (pe_cmpR (op_eqD (hu64 hr)) (pe_fld (pv 0) rfl) (pe_fld (pv 1) rfl) (nomark _)) (pe_one (pe_cmpR (op_eqD (hu64 hr)) (pe_fld (pv 0) rfl) (pe_fld (pv 1) rfl) (nomark _)))))))), ?_⟩
    dsimp only [cxOf, Cx.nox]
    rcases h with ⟨h, ms, ds, rfl, hB, k⟩ | ⟨t, ty, kt, k⟩
    rotate_left
    · repeat walk_at "st"
      refine ⟨_, _, _, _, false, rfl, .own _, ty, kt, ?_⟩
      repeat walk_at "st"
      exact k _ (Ex.refl _)
    obtain ⟨dx', tn', tc', d', kvs', hB1⟩ := id hB
    repeat walk_at "st"
    refine ⟨_, _, _, _, true, rfl, .own _, Y.tyx hB1.ins, Y.kh, ?_⟩
    repeat walk_at "st"
    refine k_fldE hA1.ins T.cls_Heap T.no_Heap_names (hf_names _ _ _) ?_
    repeat walk_at "st"
    refine k_fldE hB1.ins T.cls_Heap T.no_Heap_names (hf_names _ _ _) ?_
    refine k_eqN hA1.nms hB1.nms hA1.sn hB1.sn ?_
    repeat walk_at "st"
    by_cases e1 : ns = ms
    · rw [decide_eq_true e1] at k ⊢
      repeat walk_at "st"
      refine k_fldE hA1.ins T.cls_Heap T.no_Heap_cells (hf_cells _ _ _) ?_
      repeat walk_at "st"
      refine k_fldE hB1.ins T.cls_Heap T.no_Heap_cells (hf_cells _ _ _) ?_
      refine k_eqC hA1.cls hB1.cls (fun c hc => (hA1.sc c hc).1) (fun c hc => (hB1.sc c hc).1) ?_
      exact k _ (Ex.refl _)
    · rw [decide_eq_false e1] at k ⊢
      repeat walk_at "st"
      exact k _ (Ex.refl _)
/-- one == other, one != other: of two heaps -/
theorem k_eqH {ng : Bool} (Y : Ty P w K mg) {p h : Addr} {ns ms : List (Str × Int)} {cs ds : List Cell} {H : Hp} {Q : VK} (hA : HeapAt K H p ns cs) (hB : HeapAt K H h ms ds) (q : ∀ H', Ex H H' → Q (.bl (if ng = true then !(decide (ns = ms) && decide (cs = ds)) else (decide (ns = ms) && decide (cs = ds)))) H') : rOwnX K (hC K) (spHeqX K) E0 ng (.ref p) (.ref h) H Q := by
  obtain ⟨dx, tn, tc, d, kvs, hA1⟩ := id hA
  obtain ⟨dx', tn', tc', d', kvs', hB1⟩ := id hB
  exact ⟨p, dx, _, _, rfl, hA1.ins, Y.tyx hB1.ins, by simp [PySem.W.notFirst], p, _, ns, cs, rfl, hA, .inl ⟨h, ms, ds, rfl, hB, fun H' e => ⟨_, rfl, q H' e⟩⟩⟩
/-- .. a heap beside another thing -/
theorem k_eqO {ng : Bool} {p : Addr} {y : V} {t : Value} {ns : List (Str × Int)} {cs : List Cell} {H : Hp} {Q : VK} (hA : HeapAt K H p ns cs) (ty : TyX K H y t) (nf : PySem.W.notFirst K (hC K) t = true) (kt : PySem.W.kitOne K t (.ref (hC K)) = some false) (q : ∀ H', Ex H H' → Q (.bl ng) H') : rOwnX K (hC K) (spHeqX K) E0 ng (.ref p) y H Q := by
  obtain ⟨dx, tn, tc, d, kvs, hA1⟩ := id hA
  exact ⟨p, dx, _, t, rfl, hA1.ins, ty, nf, p, _, ns, cs, rfl, hA, .inr ⟨t, ty, kt, fun H' e => ⟨_, rfl, by cases ng <;> exact q H' e⟩⟩⟩
end


/-! ### Heap.value -/
def nmT (n : Str × Int) : List V := [.str n.1, .int n.2]
theorem names_tup {K : PySem.W.Frag} {H : Hp} {v : V} {ns : List (Str × Int)} (h : Dp K H v (dNames ns)) : ∃ (t : Addr) (xs : List V), v = .ref t ∧ SqT K H t xs ∧ xs.length = ns.length ∧ DpAll K H xs (ns.map dName) ∧ ∀ (i : Nat) (n : Str × Int), ns[i]? = some n → ∃ q, xs[i]? = some (V.ref q) ∧ SqT K H q (nmT n) := by
  unfold dNames at h
  cases h with
  | tup hs ha =>
    rename_i xs
    have hl : xs.length = ns.length := by rw [← List.length_map (f := dName)]; exact L3.DpAll.length ha
    refine ⟨_, _, rfl, hs, hl, ha, fun i c hc => ?_⟩
    obtain ⟨hi, -⟩ := List.getElem?_eq_some_iff.mp hc
    obtain ⟨v, hv⟩ : ∃ v, xs[i]? = some v := ⟨xs[i]'(by omega), List.getElem?_eq_getElem (by omega)⟩
    obtain ⟨d, hd, hdp⟩ := L3.DpAll.get ha hv
    rw [List.getElem?_map, hc] at hd
    cases hd
    obtain ⟨t, rfl, ht⟩ := dp_name hdp
    exact ⟨t, hv, ht⟩
def spValue (K : PySem.W.Frag) : Sp := fun vs H Q E => ∃ (p : Addr) (z : Str) (ns : List (Str × Int)) (cs : List Cell), vs = [.ref p, .str z] ∧ HeapAt K H p ns cs ∧ z.length ≤ 1000 ∧
  (∀ n, n ∈ ns → n.1 = z → ∀ H', Ex H H' → Q (.int n.2) H') ∧ ((∀ n, n ∈ ns → n.1 ≠ z) → ∀ H' d, Ex H H' → H' d = some (xdN z) → E (eNoN K) (some d) H')
section
variable {P : Program} {w : World} {K : PySem.W.Frag} {mg : Str → Option Value} {base : Heap}
theorem me_Heap_value (Y : Ty P w K mg) : Met P w K mg base (L2N.CX P w) 3 (hC K) "value" ["self", "name"] (spValue K) := by
  have T := Y.T
  refine met_mkX T.D_Heap_value T.me_Heap_value sc_Heap_value (fun _ _ _ _ _ _ us hl => match us, hl with | [_, _], _ => rfl) (fun vs H Q E h => ?_) (fun f cdv A outer s H vs Q E hr h => ?_)
  · obtain ⟨p, z, ns, cs, rfl, _⟩ := h
    rfl
  · obtain ⟨p, z, ns, cs, rfl, hA, hz1, k1, k2⟩ := h
    obtain ⟨dx, tn, tc, d, kvs, hA⟩ := hA
    obtain ⟨_, zs, et, hz, hzl, _, hzc⟩ := names_tup hA.nms
    cases et
    have hln := hA.ln
    refine ⟨_, ((pss_cons (ps_for (passes_of rfl) rfl (pi_tup (pe_fld (pv 0) rfl)) (pg_tup (n := 2) rfl (pgs_cons (pg_name (i := 2) sc_Heap_value.nd rfl (Or.inl rfl)) (pgs_cons (pg_name (i := 3) sc_Heap_value.nd rfl (Or.inl rfl)) pgs_nil))) (pss_one (ps_if (pt_cmpR op_eq (pv 2) (pv 1) (nomark _)) (pss_one (ps_ret (pv 3))) pss_nil)))
  (pss_one (L2N.ps_raise rfl (L2N.takes_of rfl rfl rfl rfl) (by exact pmk_NoName Y hr rfl (pa_cons (pv 1) pa_nil)))))), ?_⟩
    dsimp only [cxOf]
    repeat walk_at "st"
    refine k_fldE hA.ins T.cls_Heap T.no_Heap_names (hf_names _ _ _) ?_
    repeat walk_at "st"
    refine for_it (walk_tup (xs := zs)) (fun i σ' H' => (∃ v2 v3, σ' = [some (.ref p), some (.str z), v2, v3]) ∧ Ex H H' ∧ ∀ n, n ∈ ns.take i → n.1 ≠ z) ⟨⟨none, none, rfl⟩, Ex.refl _, fun n hn => nomatch hn⟩ (fun i σ' H' _ q => q.2.1.sqT hz)
      (fun i x σ' H' H'' hi ⟨⟨v2, v3, es⟩, e, hf⟩ y => ?_) (fun σ' H' ⟨⟨v2, v3, es⟩, e, hf⟩ => ?_)
    · subst es
      obtain ⟨rfl, y⟩ := y
      obtain ⟨n, hn⟩ : ∃ n, ns[i]? = some n := ⟨ns[i]'(by omega), List.getElem?_eq_getElem (by omega)⟩
      obtain ⟨q, hq, hsq⟩ := hzc i n hn
      rw [hq] at y
      cases y
      refine k_gTup (e.sqT hsq) rfl ?_
      unfold nmT
      repeat walk_at "st"
      by_cases hk : n.1 = z
      · rw [decide_eq_true (show V.str n.1 = V.str z by rw [hk])]
        repeat walk_at "st"
        exact k1 n (List.mem_of_getElem? hn) hk _ e
      · rw [decide_eq_false (show ¬ V.str n.1 = V.str z from fun h => hk (V.str.inj h))]
        repeat walk_at "st"
        refine ⟨⟨_, _, rfl⟩, e, fun m hm => ?_⟩
        rw [List.take_add_one, hn] at hm
        rcases List.mem_append.mp hm with h | h
        · exact hf m h
        · have : m = n := by simpa using h
          rw [this]
          exact hk
    · subst es
      rw [hzl, List.take_length] at hf
      repeat walk_at "st"
      dsimp only
      refine k_mkN ?_
      repeat walk_at "st"
      exact ⟨z, rfl, hz1, fun d' hd' => k2 hf _ d' (e.trans (Ex.new hd')) upd_same⟩
end


/-! ### list comprehensions that give values -/
theorem lc_vals {α : Type} {J : It} {n : Nat} {G : Hp → Prop} {Y : Nat → Hp → V → Hp → Prop} {g : TG} {tt : TT} {te : TE} {vs : List Nat} {σ : L2.St} {Q : VK} {H1 : Hp} (w : Walk J n G Y) (cs : List α) (hn : cs.length = n) (hz : n ≤ 100000) (f : α → Bool) (v : α → V) (hG : ∀ H', Ex H1 H' → G H')
    (hs : ∀ (i : Nat) (c : α) (x : V) (H' H'' : Hp) (R1 : V → Hp → Prop) (R0 : Hp → Prop), cs[i]? = some c → Ex H1 H' → Y i H' x H'' → (∀ H4, Ex H' H4 → f c = true → R1 (v c) H4) → (∀ H3, Ex H' H3 → f c = false → R0 H3) →
      g x (wipe σ vs) H'' fun σ2 H2 => wipe σ2 vs = wipe σ vs ∧ tt σ2 H2 fun b H3 => if b = true then te σ2 H3 R1 else R0 H3)
    (hd : ∀ D H', H1 D = none → Ex H1 H' → H' D = some (.lst ((cs.filter f).map v)) → Q (.ref D) H') : LcK J g tt te vs σ Q H1 := by
  refine lc_rel w (fun i => match cs[i]? with | some c => f c | none => false) (fun i y _ => y = match cs[i]? with | some c => v c | none => V.non) hz (fun _ _ _ _ _ h => h) hG (fun i x H' H'' R1 R0 hi e y q1 q0 => ?_) (fun D H' ls hD e hL pr => ?_)
  · obtain ⟨c, hc⟩ : ∃ c, cs[i]? = some c := ⟨cs[i]'(by omega), List.getElem?_eq_getElem (by omega)⟩
    exact hs i c x H' H'' R1 R0 hc e y (fun H4 e4 hf => q1 _ _ e4 (by simp only [hc]; exact hf) (by simp only [hc])) fun H3 e3 hf => q0 _ e3 (by simp only [hc]; exact hf)
  · have := filt_range f v (fun o => match o with | some c => f c | none => false) (fun o => match o with | some c => v c | none => V.non) (fun _ => rfl) (fun _ => rfl) cs
    rw [Paired.vals pr, ← hn, this] at hL
    exact hd D H' hD e hL
/-! ### number_occurs, where it does not -/
def spOcc (K : PySem.W.Frag) : Sp := fun vs H Q _ => ∃ (p : Addr) (a : Int) (ns : List (Str × Int)) (cs : List Cell), vs = [.ref p, .int a] ∧ HeapAt K H p ns cs ∧ (∀ c, c ∈ cs → c.a ≠ a ∧ c.l ≠ a) ∧ (∀ n, n ∈ ns → n.2 ≠ a) ∧ ∀ H', Ex H H' → Q (.bl false) H'
section
variable {P : Program} {w : World} {K : PySem.W.Frag} {mg : Str → Option Value} {base : Heap}
theorem c_number_occurs (T : Tx w K mg) : Cal P w K mg base CX0 2 "number_occurs" ["heap", "number"] (spOcc K) := by
  refine cal_mk T.D_number_occurs T.m_number_occurs sc_number_occurs (fun _ _ _ _ _ _ us hl => match us, hl with | [_, _], _ => rfl) (fun vs H Q E h => ?_) (fun f cdv A outer s H vs Q E hr h => ?_)
  · obtain ⟨p, a, ns, cs, rfl, _⟩ := h
    rfl
  · obtain ⟨p, a, ns, cs, rfl, hA, hc1, hn1, k⟩ := h
    obtain ⟨dx, tn, tc, d, kvs, hA1⟩ := id hA
    obtain ⟨_, zs, et, hz, hzl, hzc⟩ := cells_tup hA1.cls
    cases et
    obtain ⟨_, ys, et, hy, hyl, _, hyc⟩ := names_tup hA1.nms
    cases et
    have hln := hA1.ln
    have hlc := hA1.lc
    have hno : cellOf cs a = none := rowAt_none' fun c hc e => (hc1 c hc).1 (Sum.inl.inj e)
    refine ⟨_, ((pss_cons (ps_if (pt_cmp (pc_notN (by exact pe_met (pv 0) T.cls_Heap (me_Heap_cell T) hr (by decide) pass0 (pa_cons (pv 1) pa_nil)))) (pss_one (ps_ret pe_bl)) pss_nil)
  (pss_one (ps_ret (pe_or (pe_cmpR op_in_seq (pv 1) (pe_lc (own := [("pair", 2)]) rfl sc_number_occurs.nd (pi_tup (pe_fld (pv 0) rfl)) (blkOk_by (N := ["heap", "number", "pair", "cell"]) (sc := defScope s_number_occurs) (by decide +kernel)) (fun _ _ _ _ _ => (pg_name (i := 2) sc_number_occurs.nd rfl (Or.inl rfl))) (fun _ _ _ _ _ => pts_nil) (fun _ _ _ _ _ => (pe_ix (ix_tupK (K := K) rfl) (pv 2) pe_int (fun _ _ => rfl)))) rfl) (pe_one (pe_cmpR op_in_seq (pv 1) (pe_lc (own := [("cell", 3)]) rfl sc_number_occurs.nd (pi_tup (pe_fld (pv 0) rfl)) (blkOk_by (N := ["heap", "number", "pair", "cell"]) (sc := defScope s_number_occurs) (by decide +kernel)) (fun _ _ _ _ _ => (pg_name (i := 3) sc_number_occurs.nd rfl (Or.inl rfl))) (fun _ _ _ _ _ => pts_nil) (fun _ _ _ _ _ => (pe_ix (ix_tupK (K := K) rfl) (pv 3) pe_int (fun _ _ => rfl)))) rfl))))))), ?_⟩
    dsimp only [cxOf, Cx.nox]
    repeat walk_at "st"
    refine ⟨p, dx, _, rfl, hA1.ins, hf_cell _ _ _, ?_⟩
    repeat walk_at "st"
    refine ⟨p, a, ns, cs, rfl, hA, fun v hv => ?_⟩
    rw [hno] at hv
    cases hv
    repeat walk_at "st"
    rw [decide_eq_true (rfl : V.non = V.non)]
    repeat walk_at "st"
    refine k_fldE hA1.ins T.cls_Heap T.no_Heap_names (hf_names _ _ _) ?_
    repeat walk_at "st"
    refine lc_vals (walk_tup (xs := ys)) ns hyl.symm (by omega) (fun _ => true) (fun n => V.int n.2) (fun H' e => e.sqT hy) (fun i n x H' H'' R1 R0 hn e y q1 q0 => ?_) (fun D H1 hD e1 hL => ?_)
    · obtain ⟨rfl, y⟩ := y
      obtain ⟨q, hq, hsq⟩ := hyc i n hn
      rw [hq] at y
      cases y
      have hsq' := e.sqT hsq
      unfold nmT at hsq'
      refine ⟨rfl, ?_⟩
      repeat walk_at "st"
      exact q1 _ (Ex.refl _) rfl
    rw [List.filter_eq_self.mpr fun _ _ => rfl, show ns.map (fun n => V.int n.2) = (ns.map (·.2)).map V.int from by rw [List.map_map]; rfl] at hL
    repeat walk_at "st"
    refine k_in (.inl (.inl (.inl hL))) rfl (flat_int _) ?_
    rw [if_neg (by decide), inV_int, decide_eq_false (show ¬ a ∈ ns.map (·.2) from fun z => by
      obtain ⟨n, hn, e⟩ := List.mem_map.mp z
      exact hn1 n hn e)]
    have hz1 := e1.sqT hz
    repeat walk_at "st"
    refine k_fldE (e1.get hA1.ins) T.cls_Heap T.no_Heap_cells (hf_cells _ _ _) ?_
    repeat walk_at "st"
    refine lc_vals (walk_tup (xs := zs)) cs hzl.symm (by omega) (fun _ => true) (fun c => V.int c.l) (fun H' e => (e1.trans e).sqT hz) (fun i c x H' H'' R1 R0 hc e y q1 q0 => ?_) (fun D2 H2 hD2 e2 hL2 => ?_)
    · obtain ⟨rfl, y⟩ := y
      obtain ⟨q, hq, hsq⟩ := hzc i c hc
      rw [hq] at y
      cases y
      have hsq' := (e1.trans e).sqT hsq
      unfold fullT at hsq'
      refine ⟨rfl, ?_⟩
      repeat walk_at "st"
      exact q1 _ (Ex.refl _) rfl
    rw [List.filter_eq_self.mpr fun _ _ => rfl, show cs.map (fun c => V.int c.l) = (cs.map (·.l)).map V.int from by rw [List.map_map]; rfl] at hL2
    repeat walk_at "st"
    refine k_in (.inl (.inl (.inl hL2))) rfl (flat_int _) ?_
    rw [if_neg (by decide), inV_int, decide_eq_false (show ¬ a ∈ cs.map (·.l) from fun z => by
      obtain ⟨n, hn, e⟩ := List.mem_map.mp z
      exact (hc1 n hn).2 e)]
    repeat walk_at "st"
    exact k _ (e1.trans e2)
end


/-! ### with_name, without_name -/
theorem dp_filter {K : PySem.W.Frag} {H : Hp} {f : Str × Int → Bool} : ∀ {ns : List (Str × Int)} {zs : List V}, DpAll K H zs (ns.map dName) → DpAll K H (((ns.zip zs).filter fun p => f p.1).map (·.2)) ((ns.filter f).map dName)
  | [], _, h => by
    cases h
    exact .nil
  | n :: ns, _, h => by
    cases h with
    | cons h1 h2 =>
      rename_i z zs
      have ih := dp_filter (f := f) h2
      rw [List.zip_cons_cons, List.filter_cons, List.filter_cons]
      cases hf : f n with
      | true => exact .cons h1 ih
      | false => exact ih
theorem dp_app {K : PySem.W.Frag} {H : Hp} : ∀ {xs ys : List V} {ds es : List PyData}, DpAll K H xs ds → DpAll K H ys es → DpAll K H (xs ++ ys) (ds ++ es)
  | _, _, _, _, .nil, h => h
  | _, _, _, _, .cons h1 h2, h => .cons h1 (dp_app h2 h)
theorem zip_filter_len {f : Str × Int → Bool} {ns : List (Str × Int)} {zs : List V} (h : zs.length = ns.length) : (((ns.zip zs).filter fun p => f p.1).map (·.2)).length = (ns.filter f).length := by
  rw [List.length_map]
  induction ns generalizing zs with
  | nil => rfl
  | cons n ns ih =>
    match zs, h with
    | z :: zs, h =>
      have := ih (zs := zs) (by simpa using h)
      rw [List.zip_cons_cons, List.filter_cons, List.filter_cons]
      cases hf : f n with
      | true => simpa using this
      | false => exact this
theorem filt_lt {ns : List (Str × Int)} {z : Str} {n : Str × Int} (hn : n ∈ ns) (e : n.1 = z) : (ns.filter fun n => decide (n.1 ≠ z)).length < ns.length := by
  induction ns with
  | nil => cases hn
  | cons m ns ih =>
    rw [List.filter_cons]
    rcases List.mem_cons.mp hn with rfl | hm
    · rw [if_neg (by simp [e])]
      have := List.length_filter_le (fun n : Str × Int => decide (n.1 ≠ z)) ns
      rw [List.length_cons]
      omega
    · have := ih hm
      split <;> simp only [List.length_cons] <;> omega
theorem filt_all {ns : List (Str × Int)} {z : Str} (h : ∀ n, n ∈ ns → n.1 ≠ z) : (ns.filter fun n => decide (n.1 ≠ z)) = ns := List.filter_eq_self.mpr fun n hn => decide_eq_true (h n hn)
def spWith (K : PySem.W.Frag) : Sp := fun vs H Q E => ∃ (p : Addr) (z : Str) (v : Int) (ns : List (Str × Int)) (cs : List Cell), vs = [.ref p, .str z, .int v] ∧ HeapAt K H p ns cs ∧ z.length ≤ 100 ∧ ns.length ≤ 15 ∧
  (NmIn (z, v) → ∀ H' q ms, Ex H H' → HeapNew K H H' q ms cs → (∀ n, n ∈ ms ↔ n = (z, v) ∨ (n ∈ ns ∧ n.1 ≠ z)) → ms.length ≤ ns.length + 1 → Q (.ref q) H') ∧
  (nameB z = false → ∀ H' d, Ex H H' → H' d = some (xdN z) → E (eBadN K) (some d) H') ∧
  (nameB z = true → ¬ NmIn (z, v) → ¬ (0 ≤ v ∧ v ≤ 9999) ∧ (∀ c, c ∈ cs → c.a ≠ v ∧ c.l ≠ v) ∧ (∀ n, n ∈ ns → n.2 ≠ v) ∧ ∀ H' d, Ex H H' → H' d = some (xdT "names" (-1) "value") → E (eBadH K) (some d) H')
def spWithout (K : PySem.W.Frag) : Sp := fun vs H Q E => ∃ (p : Addr) (z : Str) (ns : List (Str × Int)) (cs : List Cell), vs = [.ref p, .str z] ∧ HeapAt K H p ns cs ∧ z.length ≤ 1000 ∧
  ((∃ n, n ∈ ns ∧ n.1 = z) → ∀ H' q ms, Ex H H' → HeapNew K H H' q ms cs → (∀ n, n ∈ ms ↔ n ∈ ns ∧ n.1 ≠ z) → Q (.ref q) H') ∧
  ((∀ n, n ∈ ns → n.1 ≠ z) → ∀ H' d, Ex H H' → H' d = some (xdN z) → E (eNoN K) (some d) H')
section
variable {P : Program} {w : World} {K : PySem.W.Frag} {mg : Str → Option Value} {base : Heap}
theorem me_Heap_without_name (Y : Ty P w K mg) : Met P w K mg base (L2N.CX P w) 8 (hC K) "without_name" ["self", "name"] (spWithout K) := by
  have T := Y.T
  refine met_mkX T.D_Heap_without_name T.me_Heap_without_name sc_Heap_without_name (fun _ _ _ _ _ _ us hl => match us, hl with | [_, _], _ => rfl) (fun vs H Q E h => ?_) (fun f cdv A outer s H vs Q E hr h => ?_)
  · obtain ⟨p, z, ns, cs, rfl, _⟩ := h
    rfl
  · obtain ⟨p, z, ns, cs, rfl, hA, hzl, k1, k2⟩ := h
    obtain ⟨dx, tn, tc, d, kvs, hA1⟩ := id hA
    obtain ⟨_, ys, et, hy, hyl, hyd, hyc⟩ := names_tup hA1.nms
    cases et
    obtain ⟨_, zs, et, hz, hzl', hzc⟩ := cells_tup hA1.cls
    cases et
    have hln := hA1.ln
    refine ⟨_, ((pss_cons (ps_setLc (i := 2) (own := [("pair", 3)]) rfl sc_Heap_without_name.nd rfl rfl (sw_true rfl rfl rfl (by decide +kernel)) (pi_tup (pe_fld (pv 0) rfl)) (blkOk_by (N := ["self", "name", "others", "pair"]) (sc := defScope s_Heap_without_name) (by decide +kernel)) (fun _ _ _ _ _ => (pg_name (i := 3) sc_Heap_without_name.nd rfl (Or.inl rfl))) (fun _ _ _ _ _ => (pts_one (pt_cmpR op_ne (pe_ix (ix_tupK (K := K) rfl) (pv 3) pe_int (fun _ _ => rfl)) (pv 1) (nomark _)))) (fun _ _ _ _ _ => (pv 3)))
  (pss_cons (ps_if (pt_cmpR op_eq (pe_callB cr_len rfl T.f_len (by decide +kernel) (pa_cons (pv 2) pa_nil)) (pe_callB cr_len rfl T.f_len (by decide +kernel) (pa_cons (pe_fld (pv 0) rfl) pa_nil)) (nomark _)) (pss_one (L2N.ps_raise rfl (L2N.takes_of rfl rfl rfl rfl) (by exact pmk_NoName Y hr rfl (pa_cons (pv 1) pa_nil)))) pss_nil)
  (pss_one (ps_ret (by exact pe_cal (c_heap_from T) hr (by decide) rfl pass0 (pa_cons (pv 2) (pa_cons (pe_fld (pv 0) rfl) pa_nil)))))))), ?_⟩
    dsimp only [cxOf]
    repeat walk_at "st"
    refine k_fldE hA1.ins T.cls_Heap T.no_Heap_names (hf_names _ _ _) ?_
    repeat walk_at "st"
    refine lc_vals (walk_tup (xs := ys)) (ns.zip ys) (by rw [List.length_zip, hyl, Nat.min_self]) (by omega) (fun q => decide (q.1.1 ≠ z)) (·.2) (fun H' e => e.sqT hy) (fun i c x H' H'' R1 R0 hc e y q1 q0 => ?_) (fun D H1 hD e1 hL => ?_)
    · obtain ⟨rfl, y⟩ := y
      obtain ⟨n, u⟩ := c
      obtain ⟨hc1, hc2⟩ := List.getElem?_zip_eq_some.mp hc
      obtain ⟨q, hq, hsq⟩ := hyc i n hc1
      have e1 := hq.symm.trans hc2
      have e2 := hq.symm.trans y
      cases e1
      cases e2
      have hsq' := e.sqT hsq
      unfold nmT at hsq'
      refine ⟨rfl, ?_⟩
      repeat walk_at "st"
      by_cases hk : n.1 = z
      · rw [decide_eq_true (show V.str n.1 = V.str z by rw [hk])]
        repeat walk_at "st"
        exact q0 _ (Ex.refl _) (decide_eq_false (fun h => h hk))
      · rw [decide_eq_false (show ¬ V.str n.1 = V.str z from fun h => hk (V.str.inj h))]
        repeat walk_at "st"
        exact q1 _ (Ex.refl _) (decide_eq_true hk)
    have hlen := zip_filter_len (f := fun n => decide (n.1 ≠ z)) hyl
    have hdl := dp_filter (f := fun n => decide (n.1 ≠ z)) (DpAll_ex e1 _ _ hyd)
    repeat walk_at "st"
    refine k_fldE (e1.get hA1.ins) T.cls_Heap T.no_Heap_names (hf_names _ _ _) ?_
    have hy1 := e1.sqT hy
    repeat walk_at "st"
    by_cases hk : ∃ n, n ∈ ns ∧ n.1 = z
    · obtain ⟨n, hn, en⟩ := hk
      have hlt := filt_lt hn en
      rw [decide_eq_false (show ¬ V.int _ = V.int _ from fun h => by have := V.int.inj h; omega)]
      repeat walk_at "st"
      refine k_fldE (e1.get hA1.ins) T.cls_Heap T.no_Heap_cells (hf_cells _ _ _) ?_
      repeat walk_at "st"
      have nd : ((ns.filter fun n => decide (n.1 ≠ z)).map (·.1)).Nodup := hA1.no.nd.sublist (List.Sublist.map _ List.filter_sublist)
      obtain ⟨ms, hms, hno, hmem, hml⟩ := sortN_ex nd
      obtain ⟨us, hus, hud⟩ := seq_of_dp (Dp_ex e1 _ _ hA1.cls)
      refine ⟨D, tc, _, us, _, ms, cs, rfl, .inl (.inl (.inl hL)), hdl, by omega, hms, hno, by omega, hus, hud, hA1.co, hA1.lc, fun m hm => hA1.sn m (List.mem_filter.mp ((hmem m).mp hm)).1, hA1.sc, fun H2 q e2 hq => ?_⟩
      refine k1 ⟨n, hn, en⟩ _ _ ms (e1.trans e2) (hq.older e1) fun m => ?_
      rw [hmem, List.mem_filter, decide_eq_true_eq]
    · have hall : ∀ n, n ∈ ns → n.1 ≠ z := fun n hn e => hk ⟨n, hn, e⟩
      rw [filt_all hall] at hlen
      rw [decide_eq_true (show V.int _ = V.int _ from by rw [hlen, hyl])]
      repeat walk_at "st"
      refine k_mkN ?_
      repeat walk_at "st"
      exact ⟨z, rfl, hzl, fun d' hd' => k2 hall _ d' (e1.trans (Ex.new hd')) upd_same⟩
theorem with_body (Y : Ty P w K mg) (f : Addr) (cdv : Value) (A : Around) (outer : List Env) (s : Shared) (H : Hp) (vs : List V) (Q : VK) (E : XK) (hr : Room 8 (A.deeper (envOfC "Heap.with_name" (defScope s_Heap_with_name) s.heap.objs.size f cdv))) (h : spWith K vs H Q E) :
    ∃ t, PSs (cxOf (L2N.CX P w) P w K mg base ["self", "name", "number", "others", "pair"] "Heap.with_name" (defScope s_Heap_with_name) f cdv A outer s H E) (defBody s_Heap_with_name) t ∧ t { nx := fun _ H' => Q .non H', rt := Q } (L2.start ["self", "name", "number", "others", "pair"] vs) H := by
  have T := Y.T
  obtain ⟨p, z, v, ns, cs, rfl, hA, hzl, hnl, k1, k2, k3⟩ := h
  obtain ⟨dx, tn, tc, d, kvs, hA1⟩ := id hA
  obtain ⟨_, ys, et, hy, hyl, hyd, hyc⟩ := names_tup hA1.nms
  cases et
  refine ⟨_, ((pss_cons (ps_if (pt_not (pt_val (by exact pe_cal (c_is_name T) hr (by decide) rfl pass0 (pa_cons (pv 1) pa_nil)))) (pss_one (L2N.ps_raise rfl (L2N.takes_of rfl rfl rfl rfl) (by exact pmk_BadName Y hr rfl (pa_cons (pv 1) pa_nil)))) pss_nil)
  (pss_cons (ps_if (pw_and (pt_not (pt_chain o_le o_le pe_int (pv 2) (by exact C8.pe_gc rfl T.g_MOST_VALUE))) (pw_and1 (pt_not (pt_val (by exact pe_cal (c_number_occurs T) hr (by decide) rfl pass0 (pa_cons (pv 0) (pa_cons (pv 2) pa_nil))))))).pt (pss_one (L2N.ps_raise rfl (L2N.takes_of rfl rfl rfl rfl) (by exact pmk_BadHeap Y hr rfl (pa_cons pe_str (pa_cons (pe_un un_neg pe_int) (pa_cons pe_str pa_nil)))))) pss_nil)
  (pss_cons (ps_setLc (i := 3) (own := [("pair", 4)]) rfl sc_Heap_with_name.nd rfl rfl (sw_true rfl rfl rfl (by decide +kernel)) (pi_tup (pe_fld (pv 0) rfl)) (blkOk_by (N := ["self", "name", "number", "others", "pair"]) (sc := defScope s_Heap_with_name) (by decide +kernel)) (fun _ _ _ _ _ => (pg_name (i := 4) sc_Heap_with_name.nd rfl (Or.inl rfl))) (fun _ _ _ _ _ => (pts_one (pt_cmpR op_ne (pe_ix (ix_tupK (K := K) rfl) (pv 4) pe_int (fun _ _ => rfl)) (pv 1) (nomark _)))) (fun _ _ _ _ _ => (pv 4)))
  (pss_one (ps_ret (by exact pe_cal (c_heap_from T) hr (by decide) rfl pass0 (pa_cons (pe_op op_cat (pv 3) (pe_lst (pa_cons (pe_tup (pa_cons (pv 1) (pa_cons (pv 2) pa_nil))) pa_nil))) (pa_cons (pe_fld (pv 0) rfl) pa_nil))))))))), ?_⟩
  dsimp only [cxOf]
  repeat walk_at "st"
  refine ⟨z, rfl, hzl, fun H1 e1 => ?_⟩
  cases hb : nameB z with
  | false =>
    repeat walk_at "st"
    refine k_mkN ?_
    repeat walk_at "st"
    exact ⟨z, rfl, by omega, fun d' hd' => k2 hb _ d' (e1.trans (Ex.new hd')) upd_same⟩
  | true =>
    repeat walk_at "st"
    by_cases hN : NmIn (z, v)
    · have n0 : 0 ≤ v := hN.2.2.1
      have n9 : v ≤ 9999 := hN.2.2.2.1
      rw [decide_eq_true n0]
      refine iteT ?_
      repeat walk_at "st"
      rw [decide_eq_true n9]
      repeat walk_at "st"
      have hy1 := e1.sqT hy
      refine k_fldE (e1.get hA1.ins) T.cls_Heap T.no_Heap_names (hf_names _ _ _) ?_
      repeat walk_at "st"
      refine lc_vals (walk_tup (xs := ys)) (ns.zip ys) (by rw [List.length_zip, hyl, Nat.min_self]) (by omega) (fun q => decide (q.1.1 ≠ z)) (·.2) (fun H' e => e.sqT hy1) (fun i c x H' H'' R1 R0 hc e y q1 q0 => ?_) (fun D H2 hD e2 hL => ?_)
      · obtain ⟨rfl, y⟩ := y
        obtain ⟨n, u⟩ := c
        obtain ⟨hc1, hc2⟩ := List.getElem?_zip_eq_some.mp hc
        obtain ⟨q, hq, hsq⟩ := hyc i n hc1
        have e1' := hq.symm.trans hc2
        have e2' := hq.symm.trans y
        cases e1'
        cases e2'
        have hsq' := (e1.trans e).sqT hsq
        unfold nmT at hsq'
        refine ⟨rfl, ?_⟩
        repeat walk_at "st"
        by_cases hk : n.1 = z
        · rw [decide_eq_true (show V.str n.1 = V.str z by rw [hk])]
          repeat walk_at "st"
          exact q0 _ (Ex.refl _) (decide_eq_false (fun h => h hk))
        · rw [decide_eq_false (show ¬ V.str n.1 = V.str z from fun h => hk (V.str.inj h))]
          repeat walk_at "st"
          exact q1 _ (Ex.refl _) (decide_eq_true hk)
      have hlen := zip_filter_len (f := fun n => decide (n.1 ≠ z)) hyl
      have hdl := dp_filter (f := fun n => decide (n.1 ≠ z)) hyd
      have hfl := List.length_filter_le (fun n : Str × Int => decide (n.1 ≠ z)) ns
      repeat walk_at "st"
      intro t H3 ht e3 h3
      repeat walk_at "st"
      intro l H4 hl e4 h4
      repeat walk_at "st"
      have hL4 := (e3.trans e4).get hL
      refine k_cat hL4 h4 (by rw [hlen, sizeLine_eq]; simp only [List.length_cons, List.length_nil]; omega) fun pn H5 hpn e5 h5 => ?_
      repeat walk_at "st"
      have e15 : Ex H H5 := e1.trans (e2.trans (e3.trans (e4.trans e5)))
      refine k_fldE (e15.get hA1.ins) T.cls_Heap T.no_Heap_cells (hf_cells _ _ _) ?_
      repeat walk_at "st"
      have nd : (((ns.filter fun n => decide (n.1 ≠ z)) ++ [(z, v)]).map (·.1)).Nodup := by
        rw [List.map_append]
        refine List.nodup_append.mpr ⟨hA1.no.nd.sublist (List.Sublist.map _ List.filter_sublist), by simp, fun a ha b hb e => ?_⟩
        obtain ⟨n, hn, rfl⟩ := List.mem_map.mp ha
        have := (List.mem_filter.mp hn).2
        simp at hb this
        exact this (e.trans hb)
      obtain ⟨ms, hms, hno, hmem, hml⟩ := sortN_ex nd
      obtain ⟨_, zs, et, hz, hzl', hzc⟩ := cells_tup hA1.cls
      cases et
      obtain ⟨us, hus, hud⟩ := seq_of_dp (Dp_ex e15 _ _ hA1.cls)
      have hdd : DpAll K H5 ((((ns.zip ys).filter fun q => decide (q.1.1 ≠ z)).map (·.2)) ++ [V.ref t]) (((ns.filter fun n => decide (n.1 ≠ z)) ++ [(z, v)]).map dName) := by
        rw [List.map_append]
        exact dp_app (DpAll_ex e15 _ _ hdl) (.cons (.tup (.inl (.inl ((e4.trans e5).get h3))) (.cons (.str _) (.cons (.int _) .nil))) .nil)
      have hmm : ∀ n, n ∈ ms ↔ n = (z, v) ∨ (n ∈ ns ∧ n.1 ≠ z) := fun n => by
        rw [hmem, List.mem_append, List.mem_filter, decide_eq_true_eq, List.mem_singleton, or_comm]
      have hml2 : ms.length ≤ ns.length + 1 := by
        rw [hml, List.length_append]
        simp only [List.length_cons, List.length_nil]
        omega
      refine ⟨pn, tc, _, us, _, ms, cs, rfl, .inl (.inl (.inl h5)), hdd, by rw [← hml]; omega, hms, hno, by omega, hus, hud, hA1.co, hA1.lc, fun m hm => ?_, hA1.sc, fun H6 q e6 hq => ?_⟩
      · rcases (hmm m).mp hm with rfl | ⟨h, _⟩
        · exact hN.2.2.2.2
        · exact hA1.sn m h
      · exact k1 hN _ _ ms (e15.trans e6) (hq.older e15) hmm hml2
    · obtain ⟨hv, hc1, hn1, k3⟩ := k3 hb hN
      have occ : ∀ Q2 : VK, (∀ H', Ex H1 H' → Q2 (.bl false) H') → spOcc K [.ref p, .int v] H1 Q2 (fun _ _ _ => False) := fun Q2 q2 => ⟨p, v, ns, cs, rfl, hA.ex e1, hc1, hn1, q2⟩
      by_cases n0 : 0 ≤ v
      · have n9 : ¬ v ≤ 9999 := fun z => hv ⟨n0, z⟩
        rw [decide_eq_true n0]
        refine iteT ?_
        repeat walk_at "st"
        rw [decide_eq_false n9]
        repeat walk_at "st"
        refine ⟨p, v, ns, cs, rfl, hA.ex e1, hc1, hn1, fun H2 e2 => ?_⟩
        repeat walk_at "st"
        refine k_mk3 ?_
        repeat walk_at "st"
        exact ⟨"names", "value", -1, rfl, by decide +kernel, by decide +kernel, by decide +kernel, fun d' hd' => k3 _ d' (e1.trans (e2.trans (Ex.new hd'))) upd_same⟩
      · rw [decide_eq_false n0]
        refine iteF ?_
        repeat walk_at "st"
        refine ⟨p, v, ns, cs, rfl, hA.ex e1, hc1, hn1, fun H2 e2 => ?_⟩
        repeat walk_at "st"
        refine k_mk3 ?_
        repeat walk_at "st"
        exact ⟨"names", "value", -1, rfl, by decide +kernel, by decide +kernel, by decide +kernel, fun d' hd' => k3 _ d' (e1.trans (e2.trans (Ex.new hd'))) upd_same⟩
theorem me_Heap_with_name (Y : Ty P w K mg) : Met P w K mg base (L2N.CX P w) 9 (hC K) "with_name" ["self", "name", "number"] (spWith K) := by
  have T := Y.T
  refine met_mkX T.D_Heap_with_name T.me_Heap_with_name sc_Heap_with_name (fun _ _ _ _ _ _ us hl => match us, hl with | [_, _, _], _ => rfl) (fun vs H Q E h => ?_) (with_body Y)
  obtain ⟨p, z, v, ns, cs, rfl, _⟩ := h
  rfl
theorem mk_Heap_with_name (Y : Ty P w K mg) : MetK P w K mg base (L2N.CX P w) 9 (hC K) "with_name" 2 ["self", "name", "number"] ["number"] (spWith K) := by
  have T := Y.T
  refine metK_mkX T.D_Heap_with_name T.me_Heap_with_name sc_Heap_with_name (fun _ _ _ _ _ _ us ws hl hl2 => match us, ws, hl, hl2 with | [_, _], [_], _, _ => rfl) (fun vs H Q E h => ?_) (with_body Y)
  obtain ⟨p, z, v, ns, cs, rfl, _⟩ := h
  rfl
end


/-! ### len, cells -/
theorem cr_lenK {X : Cx} {K : PySem.W.Frag} (h : X.K = K) : CallR X (.builtin "len") (L3.rLen K) := h ▸ cr_len
theorem cells_eq {K : PySem.W.Frag} {H : Hp} {p : Addr} {ns : List (Str × Int)} {cs xs : List Cell} (h : HeapAt K H p ns cs) (nx : (xs.map kC).Nodup) (e : ∀ c, c ∈ cs ↔ c ∈ xs) (a : Int) : cellOf cs a = cellOf xs a := by
  obtain ⟨_, _, _, _, _, hA⟩ := h
  exact (rowAt_ext hA.co.nd nx).mp e (Sum.inl a)
/-! ### arrival -/
def wkR (f : Int → Option Cell) (g : Int) : Nat → Int → Option (List Int)
  | 0, a => if a = g then some [] else none
  | k + 1, a => if a = g then some [] else match f a with
    | none => none
    | some c => (wkR f g k c.l).map (a :: ·)
theorem wkR_goal {f : Int → Option Cell} {g : Int} (k : Nat) : wkR f g k g = some [] := by
  cases k <;> simp [wkR]
theorem wkR_end {f : Int → Option Cell} {g a : Int} (h : a ≠ g) : wkR f g 0 a = none := by simp [wkR, h]
theorem wkR_out {f : Int → Option Cell} {g a : Int} (h : a ≠ g) (e : f a = none) (k : Nat) : wkR f g k a = none := by
  cases k <;> simp [wkR, h, e]
theorem wkR_step {f : Int → Option Cell} {g a : Int} {c : Cell} (h : a ≠ g) (e : f a = some c) (k : Nat) : wkR f g (k + 1) a = (wkR f g k c.l).map (a :: ·) := by
  simp [wkR, h, e]
/-- the way's value -/
def WayV (H H' : Hp) (o : Option (List Int)) (v : V) : Prop := match o with
  | none => v = .non
  | some xs => ∃ l, v = V.ref l ∧ H l = none ∧ H' l = some (.lst (xs.map V.int))
def wayOf (cs : List Cell) (s g : Int) : Option (List Int) := wkR (cellOf cs) g cs.length s
theorem wkR_len {f : Int → Option Cell} {g : Int} : ∀ (k : Nat) (a : Int) (xs : List Int), wkR f g k a = some xs → xs.length ≤ k
  | 0, a, xs, h => by
    unfold wkR at h
    split at h
    · cases h; simp
    · cases h
  | k + 1, a, xs, h => by
    unfold wkR at h
    split at h
    · cases h; simp
    · split at h
      · cases h
      · obtain ⟨ys, hy, rfl⟩ := Option.map_eq_some_iff.mp h
        have := wkR_len k _ _ hy
        simp only [List.length_cons]
        omega
def spArr (K : PySem.W.Frag) : Sp := fun vs H Q _ => ∃ (p : Addr) (a g : Int) (ns : List (Str × Int)) (cs : List Cell), vs = [.ref p, .int a, .int g] ∧ HeapAt K H p ns cs ∧ ∀ H' v, Ex H H' → WayV H H' (wayOf cs a g) v → Q v H'
def ArrI (p l : Addr) (a g : Int) (H : Hp) (cs : List Cell) (m : Nat) (σ : L2.St) (H' : Hp) : Prop := ∃ (pre : List Int) (x : Int) (v5 : Option V), σ = [some (.ref p), some (.int a), some (.int g), some (.ref l), some (.int x), v5] ∧ Ex H H' ∧ H' l = some (.lst (pre.map V.int)) ∧
  pre.length + m = cs.length ∧ wayOf cs a g = (wkR (cellOf cs) g m x).map (pre ++ ·)
section
variable {P : Program} {w : World} {K : PySem.W.Frag} {mg : Str → Option Value} {base : Heap}
theorem c_arrival (Y : Ty P w K mg) : Cal P w K mg base CX0 3 "arrival" ["heap", "start", "goal"] (spArr K) := by
  have T := Y.T
  refine cal_mk T.D_arrival T.m_arrival sc_arrival (fun _ _ _ _ _ _ us hl => match us, hl with | [_, _, _], _ => rfl) (fun vs H Q E h => ?_) (fun f cdv A outer s H vs Q E hr h => ?_)
  · obtain ⟨p, a, g, ns, cs, rfl, _⟩ := h
    rfl
  · obtain ⟨p, a, g, ns, cs, rfl, hA, k⟩ := h
    refine ⟨_, ((pss_cons (ps_set (i := 3) sc_arrival.nd rfl (Or.inl rfl) (pe_lst pa_nil))
  (pss_cons (ps_set (i := 4) sc_arrival.nd rfl (Or.inl rfl) (pv 1))
  (pss_cons (ps_while PassesOwn.never (pt_cmpR op_ne (pv 4) (pv 2) (nomark _)) (pss_cons (ps_set (i := 5) sc_arrival.nd rfl (Or.inl rfl) (by exact pe_met (pv 0) T.cls_Heap (me_Heap_cell T) hr (by decide) pass0 (pa_cons (pv 4) pa_nil)))
  (pss_cons (ps_if (pw_or (pt_cmp (pc_isN (pv 5))) (pw_or1 (pt_cmpR op_eq (by exact pe_callB (cr_lenK (K := K) rfl) rfl T.f_len (by decide +kernel) (pa_cons (pv 3) pa_nil)) (pe_prp (pv 0) T.cls_Heap (sz_Heap Y) hr (by decide) pass0 rfl) (nomark _)))).pt (pss_one (ps_ret pe_non)) pss_nil)
  (pss_cons (ps_expr (pe_bm PySem.F.plainAttrs_list PySem.F.slot_list_append PySem.F.type_list_append mt_append (pv 3) (pa_cons (pv 4) pa_nil)))
  (pss_one (ps_set (i := 4) sc_arrival.nd rfl (Or.inl rfl) (pe_ix (ix_tupK (K := K) rfl) (pv 5) pe_int (fun _ _ => rfl))))))))
  (pss_one (ps_ret (pv 3))))))), ?_⟩
    dsimp only [cxOf, Cx.nox]
    repeat walk_at "st"
    intro l H1 hl e1 h1
    repeat walk_at "st"
    refine ⟨ArrI p l a g H cs, ⟨cs.length, [], a, none, rfl, e1, h1, by simp, ?_⟩, ?_⟩
    · unfold wayOf
      cases wkR (cellOf cs) g cs.length a <;> rfl
    rintro m σ H2 ⟨pre, x, v5, rfl, e2, h2, hm, hW⟩
    have hA2 := hA.ex e2
    obtain ⟨dx, tn, tc, d, kvs, hA1⟩ := id hA2
    have hlc := hA1.lc
    repeat walk_at "st"
    by_cases hg : x = g
    · rw [decide_eq_true (show V.int x = V.int g by rw [hg])]
      repeat walk_at "st"
      rw [hg, wkR_goal] at hW
      refine k _ _ e2 ?_
      rw [hW]
      refine ⟨l, rfl, hl, ?_⟩
      simpa using h2
    · rw [decide_eq_false (show ¬ V.int x = V.int g from fun z => hg (V.int.inj z))]
      repeat walk_at "st"
      refine ⟨fun σ' H' => ∃ m', m' < m ∧ ArrI p l a g H cs m' σ' H', fun _ _ h => h, ?_⟩
      repeat walk_at "st"
      refine ⟨p, dx, _, rfl, hA1.ins, hf_cell _ _ _, ?_⟩
      repeat walk_at "st"
      refine ⟨p, x, ns, cs, rfl, hA2, fun v hv => ?_⟩
      repeat walk_at "st"
      cases hc : cellOf cs x with
      | none =>
        rw [hc] at hv
        cases hv
        repeat walk_at "st"
        rw [decide_eq_true (rfl : V.non = V.non)]
        repeat walk_at "st"
        refine k _ _ e2 ?_
        rw [hW, wkR_out hg hc]
        rfl
      | some c =>
        rw [hc] at hv
        obtain ⟨t, rfl, ht⟩ := hv
        rw [decide_eq_false (show ¬ V.ref t = V.non from fun z => nomatch z)]
        repeat walk_at "st"
        refine k_prop ?_
        repeat walk_at "st"
        refine ⟨p, _, _, rfl, hA1.ins, p, ns, cs, rfl, hA2, ?_⟩
        repeat walk_at "st"
        by_cases he : pre.length = cs.length
        · rw [decide_eq_true (show V.int _ = V.int _ by rw [List.length_map, he])]
          repeat walk_at "st"
          refine k _ _ e2 ?_
          have m0 : m = 0 := by omega
          rw [hW, m0, wkR_end hg]
          rfl
        · rw [decide_eq_false (show ¬ V.int _ = V.int _ from fun z => he (by have := V.int.inj z; rw [List.length_map] at this; omega))]
          repeat walk_at "st"
          intro H3 b3 h3
          repeat walk_at "st"
          obtain ⟨m', rfl⟩ : ∃ m', m = m' + 1 := ⟨m - 1, by omega⟩
          have ht3 := b3 _ _ (ne_of ht h2 (fun z => nomatch z)) ht
          unfold rowT at ht3
          refine k_ixT (.inl (.inl ht3)) (by rfl) ?_
          repeat walk_at "st"
          refine ⟨m', Nat.lt_succ_self _, pre ++ [x], c.l, _, rfl, ExB.old e2 hl b3, by rw [h3, List.map_append]; rfl, by rw [List.length_append]; simp only [List.length_cons, List.length_nil]; omega, ?_⟩
          rw [hW, wkR_step hg hc, Option.map_map]
          cases wkR (cellOf cs) g m' c.l with
          | none => rfl
          | some xs => simp
end


/-! ### _law_walk -/
theorem rows_dict {H : Hp} {kvs : List (L2.Key × V)} {xs : List Cell} (r : RowsOf H kvs xs) (a : Int) : (cellOf xs a = none ∧ valV kvs (Sum.inl a) = none) ∨ ∃ c t, cellOf xs a = some c ∧ valV kvs (Sum.inl a) = some (V.ref t) ∧ H t = some (.tup (rowT c)) := by
  have q := r.val (Sum.inl a)
  unfold AtR at q
  cases e : cellOf xs a with
  | none =>
    unfold cellOf at e
    rw [e] at q
    exact .inl ⟨rfl, q⟩
  | some c =>
    unfold cellOf at e
    rw [e] at q
    obtain ⟨x, h1, t, rfl, h2⟩ := q
    exact .inr ⟨c, t, rfl, h1, h2⟩
theorem rows_len {H : Hp} {kvs : List (L2.Key × V)} {cs : List Cell} (r : RowsOf H kvs cs) : kvs.length = cs.length := by
  have := congrArg List.length r.keys
  rw [List.length_map, List.length_map] at this
  exact this
def spWalk : Sp := fun vs H Q _ => ∃ (d : Addr) (a g : Int) (xs : List Cell), vs = [.ref d, .int a, .int g] ∧ DictC H d xs ∧ xs.length ≤ 60 ∧ ∀ H' v, Ex H H' → WayV H H' (wayOf xs a g) v → Q v H'
def WlkI (d l : Addr) (a g : Int) (H : Hp) (xs : List Cell) (i : Nat) (σ : L2.St) (H' : Hp) : Prop := ∃ (pre : List Int) (x : Int) (v5 : Option V), σ = [some (.ref d), some (.int a), some (.int g), some (.ref l), some (.int x), v5] ∧ Ex H H' ∧ H' l = some (.lst (pre.map V.int)) ∧
  ((pre.length + (xs.length - i) = xs.length ∧ i ≤ xs.length ∧ wayOf xs a g = (wkR (cellOf xs) g (xs.length - i) x).map (pre ++ ·)) ∨ (i = xs.length + 1 ∧ wayOf xs a g = none))
section
variable {P : Program} {w : World} {K : PySem.W.Frag} {mg : Str → Option Value} {base : Heap}
theorem c_l_walk (T : Tx w K mg) : Cal P w K mg base CX0 2 "_law_walk" ["cells", "start", "goal"] spWalk := by
  refine cal_mk T.D_l_walk T.m__law_walk sc_l_walk (fun _ _ _ _ _ _ us hl => match us, hl with | [_, _, _], _ => rfl) (fun vs H Q E h => ?_) (fun f cdv A outer s H vs Q E hr h => ?_)
  · obtain ⟨d, a, g, xs, rfl, _⟩ := h
    rfl
  · obtain ⟨d, a, g, xs, rfl, ⟨kvs, hk, hrw, nd⟩, hxl, k⟩ := h
    have hu := hu_of hr
    have hkl := rows_len hrw
    refine ⟨_, ((pss_cons (ps_par (i := 3) (j := 4) rfl sc_l_walk.nd rfl rfl (by decide) rfl rfl (pa_cons (pe_lst pa_nil) (pa_cons (pv 1) pa_nil)) rfl)
  (pss_cons (ps_for PassesOwn.never rfl (pi_range1 rfl T.f_range (pa_cons (pe_op o_add (pe_callB cr_lenD rfl T.f_len (by decide +kernel) (pa_cons (pv 0) pa_nil)) pe_int) pa_nil)) (pg_name (i := 5) sc_l_walk.nd rfl (Or.inl rfl)) (pss_cons (ps_if (pt_cmpR op_eq (pv 4) (pv 2) (nomark _)) (pss_one (ps_ret (pv 3))) pss_nil)
  (pss_cons (ps_if (pt_cmp (pc_dnotin hu (pv 4) (pv 0)) rfl) (pss_one (ps_ret pe_non)) pss_nil)
  (pss_cons (ps_expr (pe_bm PySem.F.plainAttrs_list PySem.F.slot_list_append PySem.F.type_list_append mt_append (pv 3) (pa_cons (pv 4) pa_nil)))
  (pss_one (ps_set (i := 4) sc_l_walk.nd rfl (Or.inl rfl) (pe_ix (ix_tupK (K := K) rfl) (pe_dget hu (pv 0) (pv 4) (fun _ _ => rfl)) pe_int (fun _ _ => rfl))))))))
  (pss_one (ps_ret pe_non))))), ?_⟩
    dsimp only [cxOf, Cx.nox]
    repeat walk_at "st"
    intro l H1 hl e1 h1
    repeat walk_at "st"
    have hk1 := e1.get hk
    repeat walk_at "st"
    refine for_range (lo := 0) (WlkI d l a g H xs) ⟨[], a, none, rfl, e1, h1, .inl ⟨by simp, Nat.zero_le _, ?_⟩⟩ (fun i σ' H2 hi ⟨pre, x, v5, es, e2, h2, hW⟩ => ?_) (fun σ' H2 ⟨pre, x, v5, es, e2, h2, hW⟩ => ?_)
    · unfold wayOf
      rw [Nat.sub_zero]
      cases wkR (cellOf xs) g xs.length a <;> rfl
    · subst es
      have hi2 : i ≤ xs.length := by omega
      obtain ⟨hp, _, hW⟩ := hW.resolve_right fun z => by omega
      have hk2 := e2.get hk
      repeat walk_at "st"
      by_cases hg : x = g
      · rw [decide_eq_true (show V.int x = V.int g by rw [hg])]
        repeat walk_at "st"
        rw [hg, wkR_goal] at hW
        refine k _ _ e2 ?_
        rw [hW]
        refine ⟨l, rfl, hl, ?_⟩
        simpa using h2
      · rw [decide_eq_false (show ¬ V.int x = V.int g from fun z => hg (V.int.inj z))]
        repeat walk_at "st"
        refine k_dinE (k := Sum.inl x) rfl (.inl hk2) ?_
        rcases rows_dict hrw x with ⟨hc, hv⟩ | ⟨c, t, hc, hv, ht⟩
        · rw [hv]
          repeat walk_at "st"
          refine k _ _ e2 ?_
          rw [hW, wkR_out hg hc]
          rfl
        · rw [hv]
          repeat walk_at "st"
          intro H3 b3 h3
          have e3 : Ex H H3 := ExB.old e2 hl b3
          have hk3 := e3.get hk
          repeat walk_at "st"
          refine k_dgetE (k := Sum.inl x) rfl (.inl hk3) hv ?_
          have ht3 := e3.get ht
          unfold rowT at ht3
          repeat walk_at "st"
          refine ⟨pre ++ [x], c.l, _, rfl, e3, by rw [h3, List.map_append]; rfl, ?_⟩
          by_cases hn : i = xs.length
          · refine .inr ⟨by omega, ?_⟩
            rw [hW, show xs.length - i = 0 by omega, wkR_end hg]
            rfl
          · refine .inl ⟨by rw [List.length_append]; simp only [List.length_cons, List.length_nil]; omega, by omega, ?_⟩
            rw [hW, show xs.length - i = (xs.length - (i + 1)) + 1 by omega, wkR_step hg hc, Option.map_map]
            cases wkR (cellOf xs) g (xs.length - (i + 1)) c.l with
            | none => rfl
            | some ys => simp
    · subst es
      have hW2 : wayOf xs a g = none := by
        rcases hW with ⟨_, z, _⟩ | ⟨_, z⟩
        · omega
        · exact z
      repeat walk_at "st"
      refine k _ _ e2 ?_
      rw [hW2]
      rfl
end


/-! ### what is reached from the names -/
inductive Reach (ns : List (Str × Int)) (cs : List Cell) : Int → Prop
  | base (n : Str × Int) : n ∈ ns → Reach ns cs n.2
  | step (a : Int) (c : Cell) : Reach ns cs a → cellOf cs a = some c → Reach ns cs c.l
def OkM (cs : List Cell) (met : List Int) (b : Int) : Prop := cellOf cs b = none ∨ b ∈ met
/-- met: the addresses of cells met, x: where one stands -/
structure MetAt (ns : List (Str × Int)) (cs : List Cell) (met : List Int) (x : Option Int) : Prop where
  nd : met.Nodup
  dom : ∀ a ∈ met, ∃ c, cellOf cs a = some c
  sound : ∀ a ∈ met, Reach ns cs a
  here : ∀ a, x = some a → Reach ns cs a
  closed : ∀ a ∈ met, ∀ c, cellOf cs a = some c → OkM cs met c.l ∨ x = some c.l
theorem MetAt.len {ns : List (Str × Int)} {cs : List Cell} {met : List Int} {x : Option Int} (m : MetAt ns cs met x) : met.length ≤ cs.length := by
  have := nodup_le (l1 := met) (l2 := cs.map (·.a)) m.nd fun a ha => by
    obtain ⟨c, hc⟩ := m.dom a ha
    obtain ⟨h1, h2⟩ := cell_key hc
    exact List.mem_map.mpr ⟨c, h1, h2⟩
  rwa [List.length_map] at this
theorem MetAt.start {ns : List (Str × Int)} {cs : List Cell} {met : List Int} (m : MetAt ns cs met none) {n : Str × Int} (h : n ∈ ns) : MetAt ns cs met (some n.2) :=
  ⟨m.nd, m.dom, m.sound, fun a e => by cases e; exact .base n h, fun a ha c hc => .inl ((m.closed a ha c hc).resolve_right fun z => nomatch z)⟩
theorem MetAt.stop {ns : List (Str × Int)} {cs : List Cell} {met : List Int} {x : Int} (m : MetAt ns cs met (some x)) (h : OkM cs met x) : MetAt ns cs met none :=
  ⟨m.nd, m.dom, m.sound, fun a e => (nomatch e), fun a ha c hc => (m.closed a ha c hc).elim .inl fun z => by cases z; exact .inl h⟩
theorem OkM.mono {cs : List Cell} {met : List Int} {b : Int} (x : Int) (h : OkM cs met b) : OkM cs (met ++ [x]) b := h.imp id fun z => List.mem_append_left _ z
theorem MetAt.step {ns : List (Str × Int)} {cs : List Cell} {met : List Int} {x : Int} {c : Cell} (m : MetAt ns cs met (some x)) (hc : cellOf cs x = some c) (hx : x ∉ met) : MetAt ns cs (met ++ [x]) (some c.l) := by
  refine ⟨List.nodup_append.mpr ⟨m.nd, by simp, fun a ha b hb e => ?_⟩, fun a ha => ?_, fun a ha => ?_, fun a e => ?_, fun a ha d hd => ?_⟩
  · have : b = x := by simpa using hb
    exact hx (this ▸ e ▸ ha)
  · rcases List.mem_append.mp ha with h | h
    · exact m.dom a h
    · have : a = x := by simpa using h
      rw [this]
      exact ⟨c, hc⟩
  · rcases List.mem_append.mp ha with h | h
    · exact m.sound a h
    · have : a = x := by simpa using h
      rw [this]
      exact m.here x rfl
  · cases e
    exact .step x c (m.here x rfl) hc
  · rcases List.mem_append.mp ha with h | h
    · rcases m.closed a h d hd with z | z
      · exact .inl (z.mono x)
      · cases z
        exact .inl (.inr (by simp))
    · have : a = x := by simpa using h
      subst this
      rw [hc] at hd
      cases hd
      exact .inr rfl
theorem MetAt.full {ns : List (Str × Int)} {cs : List Cell} {met : List Int} {x : Int} (m : MetAt ns cs met (some x)) (h : cs.length ≤ met.length) : OkM cs met x := by
  cases hc : cellOf cs x with
  | none => exact .inl hc
  | some c =>
    by_cases hx : x ∈ met
    · exact .inr hx
    · have := (m.step hc hx).len
      rw [List.length_append] at this
      simp only [List.length_cons, List.length_nil] at this
      omega
/-- all are met -/
def Good (ns : List (Str × Int)) (cs : List Cell) (met : List Int) : Prop := MetAt ns cs met none ∧ ∀ n ∈ ns, OkM cs met n.2
theorem Good.reach {ns : List (Str × Int)} {cs : List Cell} {met : List Int} (g : Good ns cs met) {a : Int} (h : Reach ns cs a) : OkM cs met a := by
  induction h with
  | base n hn => exact g.2 n hn
  | step a c _ hc ih =>
    rcases ih with z | z
    · rw [z] at hc; cases hc
    · exact (g.1.closed a z c hc).resolve_right fun z => nomatch z
theorem Good.iff {ns : List (Str × Int)} {cs : List Cell} {met : List Int} (g : Good ns cs met) {a : Int} {c : Cell} (h : cellOf cs a = some c) : a ∈ met ↔ Reach ns cs a :=
  ⟨g.1.sound a, fun r => (g.reach r).resolve_left fun z => by rw [z] at h; cases h⟩
theorem Reach.mono {ns ms : List (Str × Int)} {cs ds : List Cell} (hn : ∀ n, n ∈ ns → n ∈ ms) (hc : ∀ a, cellOf cs a = cellOf ds a) {a : Int} (h : Reach ns cs a) : Reach ms ds a := by
  induction h with
  | base n h => exact .base n (hn n h)
  | step a c _ e ih => exact .step a c ih ((hc a).symm.trans e)
def lostL (cs : List Cell) (met : List Int) : List Int := (cs.filter fun c => decide (c.a ∉ met)).map (·.a)
/-- both ways to the lost ones -/
theorem lost_eq {ns ms : List (Str × Int)} {cs ds : List Cell} {met mex : List Int} (hn : ∀ n, n ∈ ns ↔ n ∈ ms) (hc : ∀ a, cellOf cs a = cellOf ds a) (co : CsOk cs) (g : Good ns cs met) (k : Good ms ds mex) : lostL cs met = lostL cs mex := by
  unfold lostL
  congr 1
  refine List.filter_congr fun c hcm => decide_eq_decide.mpr (not_congr ?_)
  have e := cell_mem co hcm
  rw [g.iff e, k.iff ((hc _).symm.trans e)]
  exact ⟨Reach.mono (fun n h => (hn n).mp h) hc, Reach.mono (fun n h => (hn n).mpr h) fun a => (hc a).symm⟩
/-! the dict of the met ones -/
def kvM (met : List Int) : List (L2.Key × V) := met.map fun a => (Sum.inl a, V.bl true)
theorem kvM_none {met : List Int} {x : Int} (h : x ∉ met) : valV (kvM met) (Sum.inl x) = none := by
  induction met with
  | nil => rfl
  | cons n ns ih =>
    rw [List.mem_cons, not_or] at h
    show valV ((Sum.inl n, V.bl true) :: kvM ns) _ = none
    rw [valV_neg (fun e => h.1 (Sum.inl.inj e).symm)]
    exact ih h.2
theorem kvM_some {met : List Int} {x : Int} (h : x ∈ met) : valV (kvM met) (Sum.inl x) = some (.bl true) := by
  induction met with
  | nil => cases h
  | cons n ns ih =>
    show valV ((Sum.inl n, V.bl true) :: kvM ns) _ = _
    by_cases e : n = x
    · rw [e, valV_pos rfl]
    · rw [valV_neg (fun z => e (Sum.inl.inj z))]
      exact ih ((List.mem_cons.mp h).resolve_left fun z => e z.symm)
theorem kvM_put {met : List Int} {x : Int} (h : x ∉ met) : putK (kvM met) (Sum.inl x) (.bl true) = kvM (met ++ [x]) := by
  rw [putK_new _ (kvM_none h)]
  unfold kvM
  rw [List.map_append]
  rfl
theorem kvM_len (met : List Int) : (kvM met).length = met.length := List.length_map _


/-! ### lost_cells -/
def spLost (K : PySem.W.Frag) : Sp := fun vs H Q _ => ∃ (p : Addr) (ns : List (Str × Int)) (cs : List Cell), vs = [.ref p] ∧ HeapAt K H p ns cs ∧ ∀ H' l met, Ex H H' → H l = none → H' l = some (.lst ((lostL cs met).map V.int)) → Good ns cs met → Q (.ref l) H'
def LosI (p D : Addr) (H : Hp) (ns : List (Str × Int)) (cs : List Cell) (i : Nat) (σ : L2.St) (H' : Hp) : Prop := ∃ (met : List Int) (v2 v3 v4 : Option V), σ = [some (.ref p), some (.ref D), v2, v3, v4] ∧ Ex H H' ∧ H' D = some (.dK (kvM met)) ∧ MetAt ns cs met none ∧ ∀ n ∈ ns.take i, OkM cs met n.2
def LosW (p D : Addr) (v2 v4 : Option V) (H : Hp) (ns : List (Str × Int)) (cs : List Cell) (i : Nat) (n : Str × Int) (m : Nat) (σ : L2.St) (H' : Hp) : Prop := ∃ (met : List Int) (x : Int), σ = [some (.ref p), some (.ref D), v2, some (.int x), v4] ∧ Ex H H' ∧ H' D = some (.dK (kvM met)) ∧ MetAt ns cs met (some x) ∧
  (∀ k ∈ ns.take i, OkM cs met k.2) ∧ (OkM cs met n.2 ∨ n.2 = x) ∧ met.length + m = cs.length
section
variable {P : Program} {w : World} {K : PySem.W.Frag} {mg : Str → Option Value} {base : Heap}
theorem c_lost_cells (T : Tx w K mg) : Cal P w K mg base CX0 3 "lost_cells" ["heap"] (spLost K) := by
  refine cal_mk T.D_lost_cells T.m_lost_cells sc_lost_cells (fun _ _ _ _ _ _ us hl => match us, hl with | [_], _ => rfl) (fun vs H Q E h => ?_) (fun f cdv A outer s H vs Q E hr h => ?_)
  · obtain ⟨p, ns, cs, rfl, _⟩ := h
    rfl
  · obtain ⟨p, ns, cs, rfl, hA, k⟩ := h
    obtain ⟨dx, tn, tc, d, kvs, hA1⟩ := id hA
    obtain ⟨_, ys, et, hy, hyl, _, hyc⟩ := names_tup hA1.nms
    cases et
    obtain ⟨_, zs, et, hz, hzl, hzc⟩ := cells_tup hA1.cls
    cases et
    have hln := hA1.ln
    have hlc := hA1.lc
    have hu := hu_of hr
    refine ⟨_, ((pss_cons (ps_set (i := 1) sc_lost_cells.nd rfl (Or.inr rfl) pe_dnewK)
  (pss_cons (ps_for PassesOwn.never rfl (pi_tup (pe_fld (pv 0) rfl)) (pg_name (i := 2) sc_lost_cells.nd rfl (Or.inl rfl)) (pss_cons (ps_set (i := 3) sc_lost_cells.nd rfl (Or.inl rfl) (pe_ix (ix_tupK (K := K) rfl) (pv 2) pe_int (fun _ _ => rfl)))
  (pss_one (ps_while PassesOwn.never (pw_and (pt_cmp (pc_dnotin hu (pv 3) (pv 1)) rfl) (pw_and1 (pt_cmp (pc_notN (by exact pe_met (pv 0) T.cls_Heap (me_Heap_cell T) hr (by decide) pass0 (pa_cons (pv 3) pa_nil)))))).pt (pss_cons (ps_dput hu (pv 1) (pv 3) pe_bl rfl)
  (pss_one (ps_set (i := 3) sc_lost_cells.nd rfl (Or.inl rfl) (pe_ix (ix_tupK (K := K) rfl) (by exact pe_met (pv 0) T.cls_Heap (me_Heap_cell T) hr (by decide) pass0 (pa_cons (pv 3) pa_nil)) pe_int (fun _ _ => rfl)))))))))
  (pss_one (ps_ret (pe_lc (own := [("cell", 4)]) rfl sc_lost_cells.nd (pi_tup (pe_fld (pv 0) rfl)) (blkOk_by (N := ["heap", "reached", "pair", "at", "cell"]) (sc := defScope s_lost_cells) (by decide +kernel)) (fun _ _ _ _ _ => (pg_name (i := 4) sc_lost_cells.nd rfl (Or.inl rfl))) (fun _ _ _ _ _ => (pts_one (pt_cmp (pc_dnotin hu (pe_ix (ix_tupK (K := K) rfl) (pv 4) pe_int (fun _ _ => rfl)) (pv 1)) rfl))) (fun _ _ _ _ _ => (pe_ix (ix_tupK (K := K) rfl) (pv 4) pe_int (fun _ _ => rfl))))))))), ?_⟩
    dsimp only [cxOf, Cx.nox]
    repeat walk_at "st"
    refine k_dnew fun D H1 hD e1 h1 => ?_
    repeat walk_at "st"
    refine k_fldE (e1.get hA1.ins) T.cls_Heap T.no_Heap_names (hf_names _ _ _) ?_
    have hy1 := e1.sqT hy
    repeat walk_at "st"
    refine for_it (walk_tup (xs := ys)) (LosI p D H ns cs) ⟨[], none, none, none, rfl, e1, h1, ⟨.nil, (fun _ h => nomatch h), (fun _ h => nomatch h), (fun _ h => nomatch h), (fun _ h => nomatch h)⟩, (fun _ h => nomatch h)⟩ (fun i σ' H' _ ⟨_, _, _, _, _, e, _⟩ => e.sqT hy)
      (fun i x σ' H2 H'' hi ⟨met, v2, v3, v4, es, e2, h2, M, st⟩ y => ?_) (fun σ' H2 ⟨met, v2, v3, v4, es, e2, h2, M, st⟩ => ?_)
    · subst es
      obtain ⟨rfl, y⟩ := y
      obtain ⟨n, hn⟩ : ∃ n, ns[i]? = some n := ⟨ns[i]'(by omega), List.getElem?_eq_getElem (by omega)⟩
      obtain ⟨q, hq, hsq⟩ := hyc i n hn
      rw [hq] at y
      cases y
      have hsq2 := e2.sqT hsq
      unfold nmT at hsq2
      repeat walk_at "st"
      have ml := M.len
      refine ⟨LosW p D (some (.ref q)) v4 H ns cs i n, ⟨cs.length - met.length, met, n.2, rfl, e2, h2, M.start (List.mem_of_getElem? hn), st, .inr rfl, by omega⟩, ?_⟩
      rintro m σ H3 ⟨met, x, rfl, e3, h3, M3, st3, pg, hm⟩
      have hA3 := hA.ex e3
      obtain ⟨dx3, tn3, tc3, d3, kvs3, hA4⟩ := id hA3
      have off : OkM cs met x → LosI p D H ns cs (i + 1) [some (.ref p), some (.ref D), some (.ref q), some (.int x), v4] H3 := fun ok => by
        refine ⟨met, _, _, _, rfl, e3, h3, M3.stop ok, fun k hk => ?_⟩
        rw [List.take_add_one, hn] at hk
        rcases List.mem_append.mp hk with h | h
        · exact st3 k h
        · have : k = n := by simpa using h
          rw [this]
          exact pg.elim id fun z => z ▸ ok
      repeat walk_at "st"
      refine k_dinE (k := Sum.inl x) rfl (.inl h3) ?_
      by_cases hx : x ∈ met
      · rw [kvM_some hx]
        repeat walk_at "st"
        exact off (.inr hx)
      · rw [kvM_none hx]
        repeat walk_at "st"
        refine ⟨p, dx3, _, rfl, hA4.ins, hf_cell _ _ _, ?_⟩
        repeat walk_at "st"
        refine ⟨p, x, ns, cs, rfl, hA3, fun v hv => ?_⟩
        repeat walk_at "st"
        cases hc : cellOf cs x with
        | none =>
          rw [hc] at hv
          cases hv
          rw [decide_eq_true (rfl : V.non = V.non)]
          repeat walk_at "st"
          exact off (.inl hc)
        | some c =>
          rw [hc] at hv
          obtain ⟨t, rfl, ht⟩ := hv
          rw [decide_eq_false (show ¬ V.ref t = V.non from fun z => nomatch z)]
          repeat walk_at "st"
          refine ⟨fun σ' H' => ∃ m', m' < m ∧ LosW p D (some (.ref q)) v4 H ns cs i n m' σ' H', fun _ _ h => h, ?_⟩
          repeat walk_at "st"
          have ml3 := M3.len
          refine k_dputE (k := Sum.inl x) rfl h3 (by rw [kvM_len, sizeLine_eq]; omega) fun H4 b4 h4 => ?_
          rw [kvM_put hx] at h4
          have e4 : Ex H H4 := ExB.old e3 hD b4
          have hA5 := hA.ex e4
          obtain ⟨dx5, tn5, tc5, d5, kvs5, hA6⟩ := id hA5
          have ml4 := (M3.step hc hx).len
          rw [List.length_append] at ml4
          simp only [List.length_cons, List.length_nil] at ml4
          repeat walk_at "st"
          refine ⟨p, dx5, _, rfl, hA6.ins, hf_cell _ _ _, ?_⟩
          repeat walk_at "st"
          refine ⟨p, x, ns, cs, rfl, hA5, fun v hv => ?_⟩
          rw [hc] at hv
          obtain ⟨t', rfl, ht'⟩ := hv
          unfold rowT at ht'
          repeat walk_at "st"
          refine ⟨m - 1, by omega, met ++ [x], c.l, rfl, e4, h4, M3.step hc hx, fun k hk => (st3 k hk).mono x, .inl (pg.elim (fun z => z.mono x) fun z => .inr (by rw [z]; simp)), by rw [List.length_append]; simp only [List.length_cons, List.length_nil]; omega⟩
    · subst es
      rw [hyl, List.take_length] at st
      repeat walk_at "st"
      refine k_fldE (e2.get hA1.ins) T.cls_Heap T.no_Heap_cells (hf_cells _ _ _) ?_
      have hz2 := e2.sqT hz
      repeat walk_at "st"
      refine lc_vals (walk_tup (xs := zs)) cs hzl.symm (by omega) (fun c => decide (c.a ∉ met)) (fun c => V.int c.a) (fun H' e => e.sqT hz2) (fun i c x H' H'' R1 R0 hc e y q1 q0 => ?_) (fun L H3 hL e3 h3 => ?_)
      · obtain ⟨rfl, y⟩ := y
        obtain ⟨q, hq, hsq⟩ := hzc i c hc
        rw [hq] at y
        cases y
        have hsq' := (e2.trans e).sqT hsq
        unfold fullT at hsq'
        have hD' := e.get h2
        refine ⟨rfl, ?_⟩
        repeat walk_at "st"
        refine k_dinE (k := Sum.inl c.a) rfl (.inl hD') ?_
        by_cases hx : c.a ∈ met
        · rw [kvM_some hx]
          repeat walk_at "st"
          exact q0 _ (Ex.refl _) (decide_eq_false fun z => z hx)
        · rw [kvM_none hx]
          repeat walk_at "st"
          exact q1 _ (Ex.refl _) (decide_eq_true hx)
      · repeat walk_at "st"
        refine k _ L met (e2.trans e3) (e2.none hL) ?_ ⟨M, st⟩
        rw [h3]
        unfold lostL
        rw [List.map_map]
        rfl
end


/-! ### _law_lost -/
def spLLost : Sp := fun vs H Q _ => ∃ (a b : Addr) (ns : List (Str × Int)) (xs : List Cell), vs = [.ref a, .ref b] ∧ DictN H a ns ∧ ns.length ≤ 20 ∧ DictC H b xs ∧ xs.length ≤ 60 ∧ a ≠ b ∧
  ∀ H' l met cs, Ex H H' → H l = none → H' l = some (.lst ((lostL cs met).map V.int)) → CsOk cs → (∀ c, c ∈ cs ↔ c ∈ xs) → Good ns xs met → Q (.ref l) H'
def LloI (a b D : Addr) (Ha : Hp) (ns : List (Str × Int)) (xs : List Cell) (i : Nat) (σ : L2.St) (H' : Hp) : Prop := ∃ (met : List Int) (v3 v4 v5 : Option V), σ = [some (.ref a), some (.ref b), some (.ref D), v3, v4, v5] ∧ ExB D Ha H' ∧ H' D = some (.dK (kvM met)) ∧ MetAt ns xs met none ∧ ∀ n ∈ ns.take i, OkM xs met n.2
def LloJ (a b D : Addr) (v3 : Option V) (Ha : Hp) (ns : List (Str × Int)) (xs : List Cell) (i : Nat) (n : Str × Int) (j : Nat) (σ : L2.St) (H' : Hp) : Prop := ∃ (met : List Int) (x : Int) (v5 : Option V), σ = [some (.ref a), some (.ref b), some (.ref D), v3, some (.int x), v5] ∧ ExB D Ha H' ∧ H' D = some (.dK (kvM met)) ∧ MetAt ns xs met (some x) ∧
  (∀ k ∈ ns.take i, OkM xs met k.2) ∧ (OkM xs met n.2 ∨ n.2 = x) ∧ (OkM xs met x ∨ j ≤ met.length)
section
variable {P : Program} {w : World} {K : PySem.W.Frag} {mg : Str → Option Value} {base : Heap}
theorem c_l_lost (T : Tx w K mg) : Cal P w K mg base CX0 2 "_law_lost" ["names", "cells"] spLLost := by
  refine cal_mk T.D_l_lost T.m__law_lost sc_l_lost (fun _ _ _ _ _ _ us hl => match us, hl with | [_, _], _ => rfl) (fun vs H Q E h => ?_) (fun f cdv A outer s H vs Q E hr h => ?_)
  · obtain ⟨a, b, ns, xs, rfl, _⟩ := h
    rfl
  · obtain ⟨a, b, ns, xs, rfl, hN, hnl, hC, hxl, hab, k⟩ := h
    obtain ⟨kvs, hk, hrw, nd⟩ := hC
    have hu := hu_of hr
    have hkl := rows_len hrw
    refine ⟨_, ((pss_cons (ps_set (i := 2) sc_l_lost.nd rfl (Or.inr rfl) pe_dnewK)
  (pss_cons (ps_lock (ps_for PassesOwn.never rfl (pi_keys (pv 0)) (pg_name (i := 3) sc_l_lost.nd rfl (Or.inl rfl)) (pss_cons (ps_set (i := 4) sc_l_lost.nd rfl (Or.inl rfl) (pe_dget hu (pv 0) (pv 3) (fun _ _ => rfl)))
  (pss_one (ps_for PassesOwn.never rfl (pi_range1 rfl T.f_range (pa_cons (pe_callB cr_lenD rfl T.f_len (by decide +kernel) (pa_cons (pv 1) pa_nil)) pa_nil)) (pg_name (i := 5) sc_l_lost.nd rfl (Or.inl rfl)) (pss_one (ps_if (pw_and (pt_cmp (pc_din hu (pv 4) (pv 1)) rfl) (pw_and1 (pt_cmp (pc_dnotin hu (pv 4) (pv 2)) rfl))).pt (pss_cons (ps_dput hu (pv 2) (pv 4) pe_bl rfl)
  (pss_one (ps_set (i := 4) sc_l_lost.nd rfl (Or.inl rfl) (pe_ix (ix_tupK (K := K) rfl) (pe_dget hu (pv 1) (pv 4) (fun _ _ => rfl)) pe_int (fun _ _ => rfl))))) pss_nil)))))))
  (pss_one (ps_ret (pe_lc (own := [("place", 4)]) rfl sc_l_lost.nd (pi_list (pe_callB (call_sortedDI rfl) rfl T.f_sorted (by decide +kernel) (pa_cons (pv 1) pa_nil))) (blkOk_by (N := ["names", "cells", "met", "name", "place", "turn"]) (sc := defScope s_l_lost) (by decide +kernel)) (fun _ _ _ _ _ => (pg_name (i := 4) sc_l_lost.nd rfl (Or.inl rfl))) (fun _ _ _ _ _ => (pts_one (pt_cmp (pc_dnotin hu (pv 4) (pv 2)) rfl))) (fun _ _ _ _ _ => (pv 4)))))))), ?_⟩
    dsimp only [cxOf, Cx.nox]
    repeat walk_at "st"
    refine k_dnew fun D H1 hD e1 h1 => ?_
    repeat walk_at "st"
    have nDa : D ≠ a := fun z => by rw [z, hN.1] at hD; cases hD
    have nDb : D ≠ b := fun z => by rw [z, hk] at hD; cases hD
    refine ⟨a, .dK (kvN ns), e1.get hN.1, trivial, fun od => ?_⟩
    repeat walk_at "st"
    refine ⟨_, rfl, a, od, rfl, .inl ⟨kvN ns, upd_same, ?_⟩⟩
    have hbu : upd H1 a (.frz od (.dK (kvN ns))) a = some (.frz od (.dK (kvN ns))) := upd_same
    have off : ∀ {x : Addr} {o : HO}, H1 x = some o → x ≠ a → upd H1 a (.frz od (.dK (kvN ns))) x = some o := fun {x o} h n => by rw [upd_ne n]; exact h
    have hDa := off h1 nDa
    have hba := off (e1.get hk) (Ne.symm hab)
    have klen : (kvN ns).length = ns.length := List.length_map _
    have rowA : ∀ {t : Addr} {c : Cell}, H t = some (.tup (rowT c)) → upd H1 a (.frz od (.dK (kvN ns))) t = some (.tup (rowT c)) ∧ t ≠ D := fun {t c} h => ⟨off (e1.get h) (ne_of h hN.1 (fun z => nomatch z)), fun z => by rw [z, hD] at h; cases h⟩
    have ul : ∀ H', ExB D (upd H1 a (.frz od (.dK (kvN ns)))) H' → ExB D H1 (upd H' a (.dK (kvN ns))) := fun H' q => unlock_exB (e1.get hN.1) q
    generalize upd H1 a (.frz od (.dK (kvN ns))) = Ha at hbu hDa hba rowA ul ⊢
    refine for_it (walk_keys (kvs := kvN ns)) (LloI a b D Ha ns xs) ⟨[], none, none, none, rfl, ExB.of (Ex.refl _), hDa, ⟨.nil, (fun _ h => nomatch h), (fun _ h => nomatch h), (fun _ h => nomatch h), (fun _ h => nomatch h)⟩, (fun _ h => nomatch h)⟩ (fun i σ' H' _ ⟨_, _, _, _, _, bb, _⟩ => bb _ _ (Ne.symm nDa) hbu)
      (fun i x σ' H2 H'' hi ⟨met, v3, v4, v5, es, b2, h2, M, st⟩ y => ?_) (fun σ' H2 ⟨met, v3, v4, v5, es, b2, h2, M, st⟩ => ?_)
    · subst es
      obtain ⟨rfl, kk, vv, y, rfl⟩ := y
      obtain ⟨n, hn⟩ : ∃ n, ns[i]? = some n := ⟨ns[i]'(by omega), List.getElem?_eq_getElem (by omega)⟩
      unfold kvN at y
      rw [List.getElem?_map, hn] at y
      cases y
      have hv := kvN_some hN.2 (List.mem_of_getElem? hn)
      have hl := b2 _ _ (Ne.symm nDa) hbu
      have hb2 := b2 _ _ (Ne.symm nDb) hba
      repeat walk_at "st"
      refine k_dgetE (k := Sum.inr n.1) rfl (.inr ⟨od, hl⟩) hv ?_
      repeat walk_at "st"
      refine for_range (lo := 0) (LloJ a b D (some (.str n.1)) Ha ns xs i n) ⟨met, n.2, v5, rfl, b2, h2, M.start (List.mem_of_getElem? hn), st, .inr rfl, .inr (Nat.zero_le _)⟩ (fun j σ' H3 hj ⟨met, x, v5, es, b3, h3, M3, st3, pg, hm⟩ => ?_) (fun σ' H3 ⟨met, x, v5, es, b3, h3, M3, st3, pg, hm⟩ => ?_)
      · subst es
        have hb3 := b3 _ _ (Ne.symm nDb) hba
        have off3 : ∀ v5, OkM xs met x → LloJ a b D (some (.str n.1)) Ha ns xs i n (j + 1) [some (.ref a), some (.ref b), some (.ref D), some (.str n.1), some (.int x), v5] H3 := fun v5 ok => ⟨met, x, _, rfl, b3, h3, M3, st3, pg, .inl ok⟩
        repeat walk_at "st"
        refine k_dinE (k := Sum.inl x) rfl (.inl hb3) ?_
        rcases rows_dict hrw x with ⟨hc, hv⟩ | ⟨c, t, hc, hv, ht⟩
        · rw [hv]
          repeat walk_at "st"
          exact off3 _ (.inl hc)
        · rw [hv]
          repeat walk_at "st"
          refine k_dinE (k := Sum.inl x) rfl (.inl h3) ?_
          by_cases hx : x ∈ met
          · rw [kvM_some hx]
            repeat walk_at "st"
            exact off3 _ (.inr hx)
          · rw [kvM_none hx]
            repeat walk_at "st"
            have ml3 := M3.len
            refine k_dputE (k := Sum.inl x) rfl h3 (by rw [kvM_len, sizeLine_eq]; omega) fun H4 b4 h4 => ?_
            rw [kvM_put hx] at h4
            have bb4 := b3.trans b4
            have hb4 := bb4 _ _ (Ne.symm nDb) hba
            obtain ⟨rt1, rt2⟩ := rowA ht
            have ht4 := bb4 _ _ rt2 rt1
            unfold rowT at ht4
            repeat walk_at "st"
            refine k_dgetE (k := Sum.inl x) rfl (.inl hb4) hv ?_
            repeat walk_at "st"
            refine ⟨met ++ [x], c.l, _, rfl, bb4, h4, M3.step hc hx, fun k hk => (st3 k hk).mono x, .inl (pg.elim (fun z => z.mono x) fun z => .inr (by rw [z]; simp)), ?_⟩
            rcases hm with z | z
            · exact absurd (z.resolve_left fun q => by rw [q] at hc; cases hc) hx
            · refine .inr ?_
              rw [List.length_append]
              simp only [List.length_cons, List.length_nil]
              omega
      · subst es
        have ok : OkM xs met x := hm.elim id fun z => M3.full (by omega)
        refine ⟨met, _, _, _, rfl, b3, h3, M3.stop ok, fun k hk => ?_⟩
        rw [List.take_add_one, hn] at hk
        rcases List.mem_append.mp hk with h | h
        · exact st3 k h
        · have : k = n := by simpa using h
          rw [this]
          exact pg.elim id fun z => z ▸ ok
    · subst es
      rw [klen, List.take_length] at st
      have hl := b2 _ _ (Ne.symm nDa) hbu
      refine ⟨hl, ?_⟩
      have b3 := ul _ b2
      have h3 : upd H2 a (.dK (kvN ns)) D = some (.dK (kvM met)) := by rw [upd_ne nDa]; exact h2
      generalize upd H2 a (.dK (kvN ns)) = H3 at b3 h3
      have e03 : Ex H H3 := ExB.old e1 hD b3
      have hkeys : kvs.map (·.1) = (xs.map (·.a)).map Sum.inl := by
        rw [hrw.keys, List.map_map]
        rfl
      dsimp only
      repeat walk_at "st"
      refine ⟨b, kvs, xs.map (·.a), rfl, .inl (e03.get hk), hkeys, by rw [List.length_map]; omega, fun ys pl pm so hpl => ?_⟩
      obtain ⟨ds, eds, cds, mds, lds⟩ := sortC_ex nd pm so
      have e4 : Ex H3 (upd H3 pl (.lst (ys.map V.int))) := Ex.new hpl
      have h4 : upd H3 pl (.lst (ys.map V.int)) pl = some (.lst (ys.map V.int)) := upd_same
      generalize upd H3 pl (.lst (ys.map V.int)) = H4 at e4 h4
      refine ⟨pl, rfl, ⟨_, .inl (.inl h4)⟩, ?_⟩
      refine lc_vals (walk_list (xs := ys.map V.int)) ds (by rw [List.length_map, ← eds, List.length_map]) (by rw [List.length_map, ← eds, List.length_map]; omega) (fun c => decide (c.a ∉ met)) (fun c => V.int c.a) (fun H' e => .inl (.inl (e.get h4))) (fun i c x H' H'' R1 R0 hc e y q1 q0 => ?_) (fun L H5 hL e5 h5 => ?_)
      · obtain ⟨rfl, y⟩ := y
        rw [List.getElem?_map, ← eds, List.getElem?_map, hc] at y
        cases y
        have hD' := e.get (e4.get h3)
        refine ⟨rfl, ?_⟩
        repeat walk_at "st"
        refine k_dinE (k := Sum.inl c.a) rfl (.inl hD') ?_
        by_cases hx : c.a ∈ met
        · rw [kvM_some hx]
          repeat walk_at "st"
          exact q0 _ (Ex.refl _) (decide_eq_false fun z => z hx)
        · rw [kvM_none hx]
          repeat walk_at "st"
          exact q1 _ (Ex.refl _) (decide_eq_true hx)
      · have e05 := e03.trans (e4.trans e5)
        repeat walk_at "st"
        refine k _ L met ds e05 ((e03.trans e4).none hL) ?_ cds mds ⟨M, st⟩
        rw [h5]
        unfold lostL
        rw [List.map_map]
        rfl
end


/-! ### _law_right -/
section
variable {K : PySem.W.Frag} {H H' : Hp} {l : Addr} {kvs : List (L2.Key × V)}
theorem sqL_exD (hl : H l = some (.dK kvs)) (b : ExB l H H') {a : Addr} {xs : List V} (h : SqL K H a xs) : SqL K H' a xs := by
  rcases h with (h | ⟨o, h⟩) | h
  · exact .inl (.inl (b _ _ (ne_of h hl (fun z => nomatch z)) h))
  · exact .inl (.inr ⟨o, b _ _ (ne_of h hl (fun z => nomatch z)) h⟩)
  · exact .inr h
theorem sqT_exD (hl : H l = some (.dK kvs)) (b : ExB l H H') {a : Addr} {xs : List V} (h : SqT K H a xs) : SqT K H' a xs := by
  rcases h with (h | ⟨o, h⟩) | h
  · exact .inl (.inl (b _ _ (ne_of h hl (fun z => nomatch z)) h))
  · exact .inl (.inr ⟨o, b _ _ (ne_of h hl (fun z => nomatch z)) h⟩)
  · exact .inr h
mutual
theorem Dp_exD (hl : H l = some (.dK kvs)) (e : ExB l H H') : ∀ (d : PyData) (v : V), Dp K H v d → Dp K H' v d
  | .none, _, h => by cases h; exact .non
  | .bool b, _, h => by cases h; exact .bl b
  | .int i, _, h => by cases h; exact .int i
  | .str x, _, h => by cases h; exact .str x
  | .list ds, _, h => by
    cases h with
    | lst hs ha => exact .lst (sqL_exD hl e hs) (DpAll_exD hl e ds _ ha)
  | .tuple ds, _, h => by
    cases h with
    | tup hs ha => exact .tup (sqT_exD hl e hs) (DpAll_exD hl e ds _ ha)
  | .dict _, _, h => by cases h
theorem DpAll_exD (hl : H l = some (.dK kvs)) (e : ExB l H H') : ∀ (ds : List PyData) (vs : List V), DpAll K H vs ds → DpAll K H' vs ds
  | [], _, h => by cases h; exact .nil
  | d :: ds, _, h => by
    cases h with
    | cons h1 h2 => exact .cons (Dp_exD hl e d _ h1) (DpAll_exD hl e ds _ h2)
end
end
theorem HeapAt.frz {K : PySem.W.Frag} {H : Hp} {p a : Addr} {ns ms : List (Str × Int)} {cs : List Cell} {od : Obj} (h : HeapAt K H p ns cs) (ha : H a = some (.dK (kvN ms))) (hne : ms ≠ []) : HeapAt K (upd H a (.frz od (.dK (kvN ms)))) p ns cs := by
  obtain ⟨dx, tn, tc, d, kvs, A⟩ := h
  have b : ExB a H (upd H a (.frz od (.dK (kvN ms)))) := ExB.upd
  have nd : d ≠ a := fun z => by
    have h1 := A.dic
    rw [z, ha] at h1
    cases h1
    have hk := A.rows.keys
    match ms, hne with
    | m :: ms, _ =>
      match cs, hk with
      | [], hk => cases hk
      | c :: cs, hk =>
        have := (List.cons.inj hk).1
        cases this
  exact ⟨dx, tn, tc, d, kvs, b _ _ (ne_of A.ins ha (fun z => nomatch z)) A.ins, Dp_exD ha b _ _ A.nms, Dp_exD ha b _ _ A.cls, b _ _ nd A.dic, A.rows.mono fun c v => TRow.exB ha b, A.lc, A.ln, A.co, A.no, A.sn, A.sc⟩
theorem dp_rowT {K : PySem.W.Frag} {H : Hp} {c : Cell} {t : Addr} (h : H t = some (.tup (rowT c))) : Dp K H (.ref t) (.tuple [.str c.m, .int c.l, .int c.s]) := .tup (.inl (.inl h)) (.cons (.str _) (.cons (.int _) (.cons (.int _) .nil)))
theorem hf_value (tn tc d : Addr) : (hf tn tc d).lookup ("value" : Str) = none := by with_unfolding_all rfl
def dInts (xs : List Int) : PyData := .list (xs.map PyData.int)
theorem dp_intsA {K : PySem.W.Frag} {H : Hp} : ∀ xs : List Int, DpAll K H (xs.map V.int) (xs.map PyData.int)
  | [] => .nil
  | x :: xs => .cons (.int x) (dp_intsA xs)
theorem dp_ints {K : PySem.W.Frag} {H : Hp} {l : Addr} {xs : List Int} (h : H l = some (.lst (xs.map V.int))) : Dp K H (.ref l) (dInts xs) := .lst (.inl (.inl h)) (dp_intsA xs)
theorem wt_ints (xs : List Int) : wt (dInts xs) = xs.length + 1 := by
  have h : ∀ xs : List Int, wts (xs.map PyData.int) = xs.length := by
    intro xs
    induction xs with
    | nil => rfl
    | cons x xs ih => rw [List.map_cons, wts, ih, List.length_cons]; simp [wt]; omega
  unfold dInts
  simp [wt, h]
  try omega
def dWay : Option (List Int) → PyData
  | none => .none
  | some xs => dInts xs
theorem dp_way {K : PySem.W.Frag} {H0 H : Hp} {o : Option (List Int)} {v : V} (h : WayV H0 H o v) : Dp K H v (dWay o) := by
  cases o with
  | none => cases h; exact .non
  | some xs =>
    obtain ⟨l, rfl, _, h⟩ := h
    exact dp_ints h
theorem wt_way {cs : List Cell} (a g : Int) (h : cs.length ≤ 60) : wt (dWay (wayOf cs a g)) ≤ 9000 := by
  cases e : wayOf cs a g with
  | none => simp [dWay, wt]
  | some xs =>
    have := wkR_len _ _ _ e
    show wt (dInts xs) ≤ 9000
    rw [wt_ints]
    omega
theorem wkR_congr {f f' : Int → Option Cell} (h : ∀ a, f a = f' a) (g : Int) (k : Nat) (a : Int) : wkR f g k a = wkR f' g k a := by
  rw [funext h]
theorem cells_len {cs xs : List Cell} (co : CsOk cs) (nd : (xs.map kC).Nodup) (h : ∀ c, c ∈ cs ↔ c ∈ xs) : cs.length = xs.length := by
  have h1 := nodup_le (l1 := cs.map (·.a)) (l2 := xs.map (·.a)) (ckeys co.nd) fun a ha => by
    obtain ⟨c, hc, e⟩ := List.mem_map.mp ha
    exact List.mem_map.mpr ⟨c, (h c).mp hc, e⟩
  have h2 := nodup_le (l1 := xs.map (·.a)) (l2 := cs.map (·.a)) (ckeys nd) fun a ha => by
    obtain ⟨c, hc, e⟩ := List.mem_map.mp ha
    exact List.mem_map.mpr ⟨c, (h c).mpr hc, e⟩
  rw [List.length_map, List.length_map] at h1 h2
  omega
theorem ints_of {ys : List V} {pl : List Int} (h : ∀ y ∈ ys, y ∈ pl.map V.int) : ∃ zs : List Int, ys = zs.map V.int := by
  induction ys with
  | nil => exact ⟨[], rfl⟩
  | cons y ys ih =>
    obtain ⟨zs, rfl⟩ := ih fun z hz => h z (List.mem_cons_of_mem _ hz)
    obtain ⟨i, _, rfl⟩ := List.mem_map.mp (h y List.mem_cons_self)
    exact ⟨i :: zs, rfl⟩
theorem cut_ints (pl : List Int) (lo hi : Option Int) : ∃ zs : List Int, cutV (pl.map V.int) lo hi = zs.map V.int ∧ zs.length ≤ pl.length := by
  obtain ⟨zs, e⟩ := ints_of (pl := pl) (ys := cutV (pl.map V.int) lo hi) fun y hy => List.mem_of_mem_drop (List.mem_of_mem_take hy)
  have := cutV_length (pl.map V.int) lo hi
  rw [e, List.length_map, List.length_map] at this
  exact ⟨zs, e, this⟩
theorem k_stepL {K : PySem.W.Frag} {te : TE} {σ : L2.St} {H : Hp} {Q : VK} (h : te σ H fun x H1 => ∃ a xs, x = V.ref a ∧ SqL K H1 a xs ∧ xs.length ≤ 1000 ∧ ∀ p ys, H1 p = none → (∀ y ∈ ys, y ∈ xs) → ys.length ≤ 1000 → Q (.ref p) (upd H1 p (.lst ys))) : tStepL K te σ H Q := h
def spRight (K : PySem.W.Frag) : Sp := fun vs H Q _ => ∃ (p a b l : Addr) (ns ms : List (Str × Int)) (cs xs : List Cell) (pl : List Int), vs = [.ref p, .ref a, .ref b, .ref l] ∧ HeapAt K H p ns cs ∧ DictN H a ms ∧ ms.length ≤ 20 ∧ (∀ n, n ∈ ms → NmIn n) ∧ DictC H b xs ∧ xs.length ≤ 60 ∧ (∀ c, c ∈ xs → CellIn c) ∧ (∀ n, n ∈ ns ↔ n ∈ ms) ∧ (∀ c, c ∈ cs ↔ c ∈ xs) ∧ a ≠ b ∧
  H l = some (.lst (pl.map V.int)) ∧ pl.length ≤ 100 ∧ ∀ H', Ex H H' → Q (.bl true) H'
section
variable {P : Program} {w : World} {K : PySem.W.Frag} {mg : Str → Option Value} {base : Heap}
theorem c_l_right (Y : Ty P w K mg) : Cal P w K mg base CX0 6 "_law_right" ["heap", "names", "cells", "places"] (spRight K) := by
  have T := Y.T
  refine cal_mk T.D_l_right T.m__law_right sc_l_right (fun _ _ _ _ _ _ us hl => match us, hl with | [_, _, _, _], _ => rfl) (fun vs H Q E h => ?_) (fun f cdv A outer s H vs Q E hr h => ?_)
  · obtain ⟨p, a, b, l, ns, ms, cs, xs, pl, rfl, _⟩ := h
    rfl
  · obtain ⟨p, a, b, l, ns, ms, cs, xs, pl, rfl, hA, hN, hml, hNi, hC, hxl, hCi, hnn, hcc, hab, hL, hpl, k⟩ := h
    have hu := hu_of hr
    obtain ⟨kvs, hk, hrw, nd⟩ := id hC
    obtain ⟨dx, tn, tc, d, kvs0, hA1⟩ := id hA
    have hclen := cells_len hA1.co nd hcc
    have hceq : ∀ x, cellOf cs x = cellOf xs x := cells_eq hA nd hcc
    have hway : ∀ x g, wayOf xs x g = wayOf cs x g := fun x g => by
      unfold wayOf
      rw [hclen]
      exact wkR_congr (fun z => (hceq z).symm) _ _ _
    have rest : ∃ t, PSs (cxOf CX0 P w K mg base ["heap", "names", "cells", "places", "goals", "starts", "name", "place", "due", "start", "goal", "told", "odd"] "_law_right" (defScope s_l_right) f cdv A outer s H E).nox ((defBody s_l_right).drop 3) t ∧ ∀ (H5 : Hp) (gd sd : Addr) (gl sl : List Int), Ex H H5 → H5 gd = some (.lst (gl.map V.int)) → H5 sd = some (.lst (sl.map V.int)) → t { nx := fun _ H' => Q .non H', rt := Q } [some (.ref p), some (.ref a), some (.ref b), some (.ref l), some (.ref gd), some (.ref sd), none, none, none, none, none, none, none] H5 := by
      refine ⟨_, ((pss_cons (ps_lock (ps_for PassesOwn.never rfl (pi_keys (pv 1)) (pg_name (i := 6) sc_l_right.nd rfl (Or.inl rfl)) (pss_one (ps_if (pt_not (pt_val (by exact pe_cal (c_l_same T) hr (by decide) rfl pass0 (pa_cons (by exact pe_met (pv 0) T.cls_Heap (me_Heap_value Y) hr (by decide) passF (pa_cons (pv 6) pa_nil)) (pa_cons (pe_dget hu (pv 1) (pv 6) (fun _ _ => rfl)) pa_nil))))) (pss_one (ps_ret pe_bl)) pss_nil))))
  (pss_cons (ps_for PassesOwn.never rfl (pi_list (pv 3)) (pg_name (i := 7) sc_l_right.nd rfl (Or.inl rfl)) (pss_cons (ps_set (i := 8) sc_l_right.nd rfl (Or.inl rfl) pe_non)
  (pss_cons (ps_if (pt_cmp (pc_din hu (pv 7) (pv 2)) rfl) (pss_one (ps_set (i := 8) sc_l_right.nd rfl (Or.inl rfl) (pe_dget hu (pv 2) (pv 7) (fun _ _ => rfl)))) pss_nil)
  (pss_one (ps_if (pt_not (pt_val (by exact pe_cal (c_l_same T) hr (by decide) rfl pass0 (pa_cons (by exact pe_met (pv 0) T.cls_Heap (me_Heap_cell T) hr (by decide) pass0 (pa_cons (pv 7) pa_nil)) (pa_cons (pv 8) pa_nil))))) (pss_one (ps_ret pe_bl)) pss_nil)))))
  (pss_cons (ps_for PassesOwn.never rfl (pi_list (pv 5)) (pg_name (i := 9) sc_l_right.nd rfl (Or.inl rfl)) (pss_one (ps_for PassesOwn.never rfl (pi_list (pv 4)) (pg_name (i := 10) sc_l_right.nd rfl (Or.inl rfl)) (pss_cons (ps_set (i := 11) sc_l_right.nd rfl (Or.inl rfl) (by exact pe_cal (c_arrival Y) hr (by decide) rfl pass0 (pa_cons (pv 0) (pa_cons (pv 9) (pa_cons (pv 10) pa_nil)))))
  (pss_cons (ps_set (i := 8) sc_l_right.nd rfl (Or.inl rfl) (by exact pe_cal (c_l_walk T) hr (by decide) rfl pass0 (pa_cons (pv 2) (pa_cons (pv 9) (pa_cons (pv 10) pa_nil)))))
  (pss_cons (ps_if (pt_not (pt_val (by exact pe_cal (c_l_same T) hr (by decide) rfl pass0 (pa_cons (pv 11) (pa_cons (pv 8) pa_nil))))) (pss_one (ps_ret pe_bl)) pss_nil)
  (pss_one (ps_if (pt_cmp (pc_notN (pv 8))) (pss_cons (ps_expr (pe_bm PySem.F.plainAttrs_list PySem.F.slot_list_append PySem.F.type_list_append mt_append (pv 11) (pa_cons pe_int pa_nil)))
  (pss_one (ps_if (pt_not (pt_val (by exact pe_cal (c_l_same T) hr (by decide) rfl pass0 (pa_cons (by exact pe_cal (c_arrival Y) hr (by decide) rfl pass0 (pa_cons (pv 0) (pa_cons (pv 9) (pa_cons (pv 10) pa_nil)))) (pa_cons (pv 8) pa_nil))))) (pss_one (ps_ret pe_bl)) pss_nil))) pss_nil))))))))
  (pss_cons (ps_par (i := 11) (j := 8) rfl sc_l_right.nd rfl rfl (by decide) rfl rfl (pa_cons (by exact pe_cal (c_lost_cells T) hr (by decide) rfl pass0 (pa_cons (pv 0) pa_nil)) (pa_cons (by exact pe_cal (c_l_lost T) hr (by decide) rfl pass0 (pa_cons (pv 1) (pa_cons (pv 2) pa_nil))) pa_nil)) rfl)
  (pss_cons (ps_if (pt_not (pt_val (by exact pe_cal (c_l_same T) hr (by decide) rfl pass0 (pa_cons (pv 11) (pa_cons (pv 8) pa_nil))))) (pss_one (ps_ret pe_bl)) pss_nil)
  (pss_cons (ps_expr (pe_bm PySem.F.plainAttrs_list PySem.F.slot_list_append PySem.F.type_list_append mt_append (pv 11) (pa_cons pe_int pa_nil)))
  (pss_cons (ps_set (i := 12) sc_l_right.nd rfl (Or.inl rfl) (pe_tup (pa_cons (by exact pe_cal (c_lost_cells T) hr (by decide) rfl pass0 (pa_cons (pv 0) pa_nil)) (pa_cons (by exact pe_met (pv 0) T.cls_Heap (me_Heap_cell T) hr (by decide) pass0 (pa_cons (pe_un un_neg pe_int) pa_nil)) (pa_cons (by exact pe_met (pv 0) T.cls_Heap (me_Heap_cell T) hr (by decide) pass0 (pa_cons pe_int pa_nil)) pa_nil)))))
  (pss_one (ps_ret (by exact pe_cal (c_l_same T) hr (by decide) rfl pass0 (pa_cons (pv 12) (pa_cons (pe_tup (pa_cons (pv 8) (pa_cons pe_non (pa_cons pe_non pa_nil)))) pa_nil))))))))))))), fun H5 gd sd gl sl e5 hG hS => ?_⟩
      dsimp only [cxOf, Cx.nox]
      repeat walk_at "st"
      refine ⟨a, .dK (kvN ms), e5.get hN.1, trivial, fun od => ?_⟩
      repeat walk_at "st"
      refine ⟨_, rfl, a, od, rfl, .inl ⟨kvN ms, upd_same, ?_⟩⟩
      have hbu : upd H5 a (.frz od (.dK (kvN ms))) a = some (.frz od (.dK (kvN ms))) := upd_same
      have ul : ∀ H', Ex (upd H5 a (.frz od (.dK (kvN ms)))) H' → Ex H5 (upd H' a (.dK (kvN ms))) := fun H' q => unlock_ex (e5.get hN.1) q
      have hfr : ms ≠ [] → HeapAt K (upd H5 a (.frz od (.dK (kvN ms)))) p ns cs := fun ne => (hA.ex e5).frz (e5.get hN.1) ne
      have klen : (kvN ms).length = ms.length := List.length_map _
      generalize upd H5 a (.frz od (.dK (kvN ms))) = Ha at hbu ul hfr ⊢
      refine for_it (walk_keys (kvs := kvN ms)) (fun i σ' H' => ∃ v6, σ' = [some (.ref p), some (.ref a), some (.ref b), some (.ref l), some (.ref gd), some (.ref sd), v6, none, none, none, none, none, none] ∧ Ex Ha H') ⟨none, rfl, Ex.refl _⟩ (fun i σ' H' _ ⟨_, _, e⟩ => e.get hbu) (fun i x σ' H2 H'' hi ⟨v6, es, e2⟩ y => ?_) (fun σ' H2 ⟨v6, es, e2⟩ => ?_)
      · subst es
        obtain ⟨rfl, kk, vv, y, rfl⟩ := y
        obtain ⟨n, hn⟩ : ∃ n, ms[i]? = some n := ⟨ms[i]'(by omega), List.getElem?_eq_getElem (by omega)⟩
        unfold kvN at y
        rw [List.getElem?_map, hn] at y
        cases y
        have hnm := List.mem_of_getElem? hn
        have hv := kvN_some hN.2 hnm
        have ne : ms ≠ [] := fun z => by rw [z] at hnm; cases hnm
        have hA2 := (hfr ne).ex e2
        obtain ⟨dx2, tn2, tc2, d2, kvs2, hA3⟩ := id hA2
        repeat walk_at "st"
        refine ⟨p, dx2, _, rfl, hA3.ins, hf_value _ _ _, ?_⟩
        repeat walk_at "st"
        refine ⟨p, n.1, ns, cs, rfl, hA2, by have := (hNi n hnm).2.1; omega, fun m hm em H3 e3 => ?_, fun z => absurd rfl (z n ((hnn n).mpr hnm))⟩
        have hm2 : m = n := by
          have h1 := kvN_some hN.2 ((hnn m).mp hm)
          rw [em, hv] at h1
          have h2 : n.2 = m.2 := V.int.inj (Option.some.inj h1)
          exact Prod.ext em h2.symm
        subst hm2
        have hl := e3.get (e2.get hbu)
        repeat walk_at "st"
        refine k_dgetE (k := Sum.inr m.1) rfl (.inr ⟨od, hl⟩) hv ?_
        repeat walk_at "st"
        refine ⟨_, _, .int m.2, rfl, (.int _), (.int _), by simp [wt], fun H4 e4 => ?_⟩
        repeat walk_at "st"
        exact ⟨_, rfl, e2.trans (e3.trans e4)⟩
      · subst es
        refine ⟨e2.get hbu, ?_⟩
        have e6 := ul _ e2
        generalize upd H2 a (.dK (kvN ms)) = H6 at e6
        have e06 := e5.trans e6
        dsimp only
        have hL6 := e06.get hL
        repeat walk_at "st"
        refine for_it (walk_list (xs := pl.map V.int)) (fun i σ' H' => ∃ v7 v8, σ' = [some (.ref p), some (.ref a), some (.ref b), some (.ref l), some (.ref gd), some (.ref sd), v6, v7, v8, none, none, none, none] ∧ Ex H6 H') ⟨none, none, rfl, Ex.refl _⟩ (fun i σ' H' _ ⟨_, _, _, e⟩ => .inl (.inl (e.get hL6))) (fun i x σ' H7 H'' hi ⟨v7, v8, es, e7⟩ y => ?_) (fun σ' H7 ⟨v7, v8, es, e7⟩ => ?_)
        · subst es
          obtain ⟨rfl, y⟩ := y
          rw [List.getElem?_map] at y
          obtain ⟨x, hx, rfl⟩ := Option.map_eq_some_iff.mp y
          have e07 := e06.trans e7
          have hk7 := e07.get hk
          have hA7 := hA.ex e07
          obtain ⟨dx7, tn7, tc7, d7, kvs7, hA8⟩ := id hA7
          repeat walk_at "st"
          refine k_dinE (k := Sum.inl x) rfl (.inl hk7) ?_
          rcases rows_dict hrw x with ⟨hc, hv⟩ | ⟨c, t, hc, hv, ht⟩
          · rw [hv]
            repeat walk_at "st"
            refine ⟨p, dx7, _, rfl, hA8.ins, hf_cell _ _ _, ?_⟩
            repeat walk_at "st"
            refine ⟨p, x, ns, cs, rfl, hA7, fun v hv' => ?_⟩
            rw [hceq x, hc] at hv'
            cases hv'
            repeat walk_at "st"
            refine ⟨_, _, .none, rfl, .non, .non, by simp [wt], fun H8 e8 => ?_⟩
            repeat walk_at "st"
            exact ⟨_, _, rfl, e7.trans e8⟩
          · rw [hv]
            repeat walk_at "st"
            refine k_dgetE (k := Sum.inl x) rfl (.inl hk7) hv ?_
            repeat walk_at "st"
            refine ⟨p, dx7, _, rfl, hA8.ins, hf_cell _ _ _, ?_⟩
            repeat walk_at "st"
            refine ⟨p, x, ns, cs, rfl, hA7, fun v hv' => ?_⟩
            rw [hceq x, hc] at hv'
            obtain ⟨t', rfl, ht'⟩ := hv'
            repeat walk_at "st"
            refine ⟨_, _, _, rfl, dp_rowT ht', dp_rowT (e07.get ht), by simp [wt, wts], fun H8 e8 => ?_⟩
            repeat walk_at "st"
            exact ⟨_, _, rfl, e7.trans e8⟩
        · subst es
          have e07 := e06.trans e7
          have hS7 := (e6.trans e7).get hS
          have hG7 := (e6.trans e7).get hG
          repeat walk_at "st"
          refine for_it (walk_list (xs := sl.map V.int)) (fun i σ' H' => ∃ v8 v9 v10 v11, σ' = [some (.ref p), some (.ref a), some (.ref b), some (.ref l), some (.ref gd), some (.ref sd), v6, v7, v8, v9, v10, v11, none] ∧ Ex H7 H') ⟨_, none, none, none, rfl, Ex.refl _⟩ (fun i σ' H' _ ⟨_, _, _, _, _, e⟩ => .inl (.inl (e.get hS7))) (fun i x σ' H8 H'' hi ⟨v8, v9, v10, v11, es, e8⟩ y => ?_) (fun σ' H8 ⟨v8, v9, v10, v11, es, e8⟩ => ?_)
          · subst es
            obtain ⟨rfl, y⟩ := y
            rw [List.getElem?_map] at y
            obtain ⟨x, hx, rfl⟩ := Option.map_eq_some_iff.mp y
            have hG8 := e8.get hG7
            repeat walk_at "st"
            refine for_it (walk_list (xs := gl.map V.int)) (fun i σ' H' => ∃ v8 v10 v11, σ' = [some (.ref p), some (.ref a), some (.ref b), some (.ref l), some (.ref gd), some (.ref sd), v6, v7, v8, some (.int x), v10, v11, none] ∧ Ex H'' H') ⟨_, _, _, rfl, Ex.refl _⟩ (fun i σ' H' _ ⟨_, _, _, _, e⟩ => .inl (.inl (e.get hG8))) (fun i g σ' H9 H'' hi ⟨v8, v10, v11, es, e9⟩ y => ?_) (fun σ' H9 ⟨v8, v10, v11, es, e9⟩ => ?_)
            · subst es
              obtain ⟨rfl, y⟩ := y
              rw [List.getElem?_map] at y
              obtain ⟨g, hg, rfl⟩ := Option.map_eq_some_iff.mp y
              have e09 := e07.trans (e8.trans e9)
              repeat walk_at "st"
              refine ⟨p, x, g, ns, cs, rfl, hA.ex e09, fun HA v eA hv => ?_⟩
              repeat walk_at "st"
              refine ⟨b, x, g, xs, rfl, hC.ex (e09.trans eA), hxl, fun HB u eB hu2 => ?_⟩
              rw [hway] at hu2
              repeat walk_at "st"
              refine ⟨v, u, _, rfl, Dp_ex eB _ _ (dp_way hv), dp_way hu2, wt_way x g (by omega), fun HD eD => ?_⟩
              repeat walk_at "st"
              have e0D := e09.trans (eA.trans (eB.trans eD))
              cases hw : wayOf cs x g with
              | none =>
                rw [hw] at hv hu2
                cases hv
                cases hu2
                rw [decide_eq_true (rfl : V.non = V.non)]
                repeat walk_at "st"
                exact ⟨_, _, _, rfl, e9.trans (eA.trans (eB.trans eD))⟩
              | some ys =>
                have hyl := wkR_len _ _ _ hw
                have hlc := hA1.lc
                rw [hw] at hv hu2
                obtain ⟨l1, rfl, n1, h1⟩ := hv
                obtain ⟨l2, rfl, n2, h2⟩ := hu2
                rw [decide_eq_false (show ¬ V.ref l2 = V.non from fun z => nomatch z)]
                have h1D := (eB.trans eD).get h1
                have h2D := eD.get h2
                have n12 : l2 ≠ l1 := fun z => by rw [z, h1] at n2; cases n2
                repeat walk_at "st"
                intro HE bE hE
                have e9E : Ex H'' HE := ExB.old (eA.trans (eB.trans eD)) n1 bE
                have h2E := bE _ _ n12 h2D
                repeat walk_at "st"
                refine ⟨p, x, g, ns, cs, rfl, hA.ex (e09.trans e9E), fun HF v' eF hv' => ?_⟩
                rw [hw] at hv'
                obtain ⟨l3, rfl, n3, h3⟩ := hv'
                repeat walk_at "st"
                refine ⟨_, _, dInts ys, rfl, dp_ints h3, dp_ints (eF.get h2E), by rw [wt_ints]; omega, fun HG eG => ?_⟩
                repeat walk_at "st"
                exact ⟨_, _, _, rfl, e9.trans (e9E.trans (eF.trans eG))⟩
            · subst es
              exact ⟨_, _, _, _, rfl, e8.trans e9⟩
          · subst es
            have e08 := e07.trans e8
            repeat walk_at "st"
            refine ⟨p, ns, cs, rfl, hA.ex e08, fun H9 l9 met e9 n9 h9 g9 => ?_⟩
            repeat walk_at "st"
            refine ⟨a, b, ms, xs, rfl, hN.ex (e08.trans e9), hml, hC.ex (e08.trans e9), hxl, hab, fun H10 l10 mex ds e10 n10 h10 cds mds g10 => ?_⟩
            have eds : ds = cs := cds.uniq hA1.co fun c => (mds c).trans (hcc c).symm
            subst eds
            have elo := lost_eq hnn hceq hA1.co g9 g10
            have hlc := hA1.lc
            have llen : (lostL ds met).length ≤ 60 := by
              unfold lostL
              rw [List.length_map]
              have := List.length_filter_le (fun c : Cell => decide (c.a ∉ met)) ds
              omega
            rw [← elo] at h10
            have h9' := e10.get h9
            repeat walk_at "st"
            refine ⟨_, _, _, rfl, dp_ints h9', dp_ints h10, by rw [wt_ints]; omega, fun H11 e11 => ?_⟩
            have h911 := e11.get h9'
            have h1011 := e11.get h10
            have n109 : l10 ≠ l9 := fun z => by rw [z, h9] at n10; cases n10
            repeat walk_at "st"
            intro H12 b12 h12
            have e812 : Ex H8 H12 := ExB.old (e9.trans (e10.trans e11)) n9 b12
            have h1012 := b12 _ _ n109 h1011
            have e012 := e08.trans e812
            repeat walk_at "st"
            refine ⟨p, ns, ds, rfl, hA.ex e012, fun H13 l13 met2 e13 n13 h13 g13 => ?_⟩
            rw [lost_eq (fun _ => Iff.rfl) (fun _ => rfl) hA1.co g13 g9] at h13
            have hA13 := hA.ex (e012.trans e13)
            obtain ⟨dx13, tn13, tc13, d13, kvs13, hA14⟩ := id hA13
            have outc : ∀ z : Int, (z < 1 ∨ 9999 < z) → cellOf ds z = none := fun z hz => by
              rw [hceq z]
              refine rowAt_none' fun c hc e => ?_
              have h1 := hCi c hc
              have h2 : c.a = z := Sum.inl.inj e
              have h3 := h1.1
              have h4 := h1.2.1
              omega
            repeat walk_at "st"
            refine ⟨p, dx13, _, rfl, hA14.ins, hf_cell _ _ _, ?_⟩
            repeat walk_at "st"
            refine ⟨p, -1, ns, ds, rfl, hA13, fun v hv => ?_⟩
            rw [outc (-1) (.inl (by decide))] at hv
            cases hv
            repeat walk_at "st"
            refine ⟨p, dx13, _, rfl, hA14.ins, hf_cell _ _ _, ?_⟩
            repeat walk_at "st"
            refine ⟨p, 10000, ns, ds, rfl, hA13, fun v hv => ?_⟩
            rw [outc 10000 (.inr (by decide))] at hv
            cases hv
            repeat walk_at "st"
            intro t14 H14 ht14 e14 h14
            repeat walk_at "st"
            intro t15 H15 ht15 e15 h15
            repeat walk_at "st"
            refine ⟨_, _, .tuple [dInts (lostL ds met), .none, .none], rfl, .tup (.inl (.inl (e15.get h14))) (.cons (dp_ints ((e14.trans e15).get h13)) (.cons .non (.cons .non .nil))), .tup (.inl (.inl h15)) (.cons (dp_ints ((e13.trans (e14.trans e15)).get h1012)) (.cons .non (.cons .non .nil))), by simp only [wt, wts, wt_ints]; omega, fun H16 e16 => ?_⟩
            exact k _ (e012.trans (e13.trans (e14.trans (e15.trans e16))))
    obtain ⟨tr, hrest, hgo⟩ := rest
    refine ⟨_, (pss_cons (ps_if (pt_not (pt_val (by exact pe_cal (c_l_heap Y) hr (by decide) rfl pass0 (pa_cons (pv 0) (pa_cons (pv 1) (pa_cons (pv 2) pa_nil)))))) (pss_one (ps_ret pe_bl)) pss_nil)
  (pss_cons (ps_par (i := 4) (j := 5) rfl sc_l_right.nd rfl rfl (by decide) rfl rfl (pa_cons (pv 3) (pa_cons (pv 3) pa_nil)) rfl)
  (pss_cons (ps_if (pt_cmpR o_gt (pe_callB cr_len rfl T.f_len (by decide +kernel) (pa_cons (pv 3) pa_nil)) pe_int (nomark _)) (pss_cons (ps_set (i := 4) sc_l_right.nd rfl (Or.inl rfl) (pe_op op_cat (pe_op op_cat (pe_slice sl_list (pv 3) po_none (po_some pe_int)) (pe_slice sl_list (pv 3) (po_some pe_int) (po_some pe_int))) (pe_slice sl_list (pv 3) (po_some (pe_un un_neg pe_int)) po_none)))
  (pss_one (ps_set (i := 5) sc_l_right.nd rfl (Or.inl rfl) (pe_op op_cat (pe_slice sl_list (pv 3) po_none (po_some pe_int)) (pe_stepL (pv 3) (by decide) (by decide)))))) pss_nil)
  hrest))), ?_⟩
    try dsimp only [cxOf, Cx.nox]
    repeat walk_at "st"
    refine ⟨p, a, b, ns, ms, cs, xs, rfl, hA, hN, hC, hml, hxl, hnn, hcc, fun H1 e1 => ?_⟩
    repeat walk_at "st"
    have hL1 := e1.get hL
    repeat walk_at "st"
    by_cases h12 : (12 : Int) < ((pl.map V.int).length : Int)
    · refine k_iteT h12 ?_
      repeat walk_at "st"
      refine k_slL (.inl (.inl hL1)) fun l2 H2 hl2 e2 h2 => ?_
      have hL2 := e2.get hL1
      repeat walk_at "st"
      refine k_slL (.inl (.inl hL2)) fun l3 H3 hl3 e3 h3 => ?_
      obtain ⟨z2, q2, m2⟩ := cut_ints pl none (some 2)
      obtain ⟨z3, q3, m3⟩ := cut_ints pl (some 30) (some 31)
      rw [q2] at h2
      rw [q3] at h3
      repeat walk_at "st"
      refine k_cat (e3.get h2) h3 (by rw [List.length_map, List.length_map, sizeLine_eq]; omega) fun l4 H4 hl4 e4 h4 => ?_
      have hL4 := (e3.trans e4).get hL2
      repeat walk_at "st"
      refine k_slL (.inl (.inl hL4)) fun l5 H5 hl5 e5 h5 => ?_
      obtain ⟨z5, q5, m5⟩ := cut_ints pl (some (-2)) none
      rw [q5] at h5
      rw [← List.map_append] at h4
      repeat walk_at "st"
      refine k_cat (e5.get h4) h5 (by rw [List.length_map, List.length_map, List.length_append, sizeLine_eq]; omega) fun l6 H6 hl6 e6 h6 => ?_
      rw [← List.map_append] at h6
      have hL6 := (e5.trans e6).get hL4
      repeat walk_at "st"
      refine k_slL (.inl (.inl hL6)) fun l7 H7 hl7 e7 h7 => ?_
      obtain ⟨z7, q7, m7⟩ := cut_ints pl none (some 6)
      rw [q7] at h7
      have hL7 := e7.get hL6
      repeat walk_at "st"
      refine k_stepL ?_
      repeat walk_at "st"
      refine ⟨l, pl.map V.int, rfl, .inl (.inl hL7), by rw [List.length_map]; omega, fun l8 ys hl8 hys hyl => ?_⟩
      obtain ⟨z8, rfl⟩ := ints_of hys
      have e8 : Ex H7 (upd H7 l8 (.lst (z8.map V.int))) := Ex.new hl8
      have h8 : upd H7 l8 (.lst (z8.map V.int)) l8 = some (.lst (z8.map V.int)) := upd_same
      generalize upd H7 l8 (.lst (z8.map V.int)) = H8 at e8 h8
      rw [List.length_map] at hyl
      refine k_cat (e8.get h7) h8 (by rw [List.length_map, List.length_map, sizeLine_eq]; omega) fun l9 H9 hl9 e9 h9 => ?_
      rw [← List.map_append] at h9
      repeat walk_at "st"
      exact hgo H9 l6 l9 _ _ (e1.trans (e2.trans (e3.trans (e4.trans (e5.trans (e6.trans (e7.trans (e8.trans e9)))))))) ((e7.trans (e8.trans e9)).get h6) h9
    · refine k_iteF h12 ?_
      repeat walk_at "st"
      exact hgo H1 l l pl pl e1 hL1 hL1
end


/-! ### pools, dicts -/
theorem pick (L : List Int) {r : Int} (h0 : 0 ≤ r) (h1 : r < L.length) : ∃ v, v ∈ L ∧ atI (L.map V.int) r = some (.int v) := by
  have hlt : r.toNat < L.length := by omega
  exact ⟨L[r.toNat], List.getElem_mem hlt, atI_of h0 (by rw [List.getElem?_map, List.getElem?_eq_getElem hlt]; rfl)⟩
theorem Pool.ex {H H' : Hp} {p : Addr} (e : Ex H H') (h : Pool H p) : Pool H' p := let ⟨o, ho, po⟩ := h; ⟨o, e.get ho, po⟩
theorem ExB.skip {p l : Addr} {H H1 H2 : Hp} (b : ExB p H H1) (hl : H l = none) (b2 : ExB l H1 H2) : ExB p H H2 := fun a o hne ha => b2 _ _ (fun z => by rw [z, hl] at ha; cases ha) (b a o hne ha)
theorem Pool.exB {H H' : Hp} {p l : Addr} (n : p ≠ l) (b : ExB l H H') (h : Pool H p) : Pool H' p := let ⟨o, ho, po⟩ := h; ⟨o, b _ _ n ho, po⟩
theorem npool {p q : Addr} {H : Hp} (hp : Pool H p) (hq : H q = none) : q ≠ p := fun z => by
  obtain ⟨o, ho, po⟩ := hp
  rw [z, ho] at hq
  cases hq
theorem ExB.back {p q : Addr} {H H1 : Hp} (b : ExB p H H1) (n : q ≠ p) (h : H1 q = none) : H q = none := by
  cases e : H q with
  | none => rfl
  | some o => rw [b _ _ n e] at h; cases h
def PartAt (H : Hp) (pl : List Int) (d : Addr) : Prop := ∃ cs, DictC H d cs ∧ ∀ c, c ∈ cs → CellIn c ∧ c.a ∈ pl
theorem PartAt.ex {H H' : Hp} {pl : List Int} {d : Addr} (e : Ex H H') (h : PartAt H pl d) : PartAt H' pl d := let ⟨cs, a, b⟩ := h; ⟨cs, a.ex e, b⟩
theorem DictC.exB {H H' : Hp} {d l : Addr} {kvs : List (L2.Key × V)} {cs : List Cell} (hl : H l = some (.dK kvs)) (n : d ≠ l) (b : ExB l H H') (h : DictC H d cs) : DictC H' d cs := let ⟨kws, h1, h2, h3⟩ := h; ⟨kws, b _ _ n h1, RowsK.mono (fun c v => TRow.exB hl b) h2, h3⟩
theorem PartAt.put {H H' : Hp} {pl : List Int} {d l t : Addr} {kvs : List (L2.Key × V)} {c : Cell} (hl : H l = some (.dK kvs)) (b : ExB l H H') (h' : H' l = some (.dK (putK kvs (kC c) (.ref t)))) (ht : H t = some (.tup (rowT c))) (hc : CellIn c ∧ c.a ∈ pl) (h : PartAt H pl d) : PartAt H' pl d := by
  obtain ⟨cs, hd, hi⟩ := h
  by_cases n : d = l
  · subst n
    obtain ⟨kws, h1, h2, h3⟩ := hd
    obtain rfl : kvs = kws := HO.dK.inj (Option.some.inj (hl.symm.trans h1))
    have ht' : TRow H' c (.ref t) := ⟨t, rfl, b _ _ (fun z => by rw [z, hl] at ht; cases ht) ht⟩
    refine ⟨putR kC cs c, ⟨_, h', RowsK.put (RowsK.mono (fun c v => TRow.exB hl b) h2) ht', putR_keys cs c h3⟩, fun x hx => ?_⟩
    unfold putR at hx
    split at hx
    · obtain ⟨y, hy, e⟩ := List.mem_map.mp hx
      split at e
      · rw [← e]; exact hc
      · rw [← e]; exact hi y hy
    · rcases List.mem_append.mp hx with q | q
      · exact hi x q
      · rw [List.mem_singleton.mp q]; exact hc
  · exact ⟨cs, DictC.exB hl n b hd, hi⟩
theorem DictN.exB {H H' : Hp} {d l : Addr} {ns : List (Str × Int)} (n : d ≠ l) (b : ExB l H H') (h : DictN H d ns) : DictN H' d ns := ⟨b _ _ n h.1, h.2⟩
theorem at_list {L : List Int} {r : Int} (h0 : 0 ≤ r) (h1 : r < L.length) : ∃ v, v ∈ L ∧ L[r.toNat]? = some v ∧ atI (L.map V.int) r = some (.int v) := by
  have hlt : r.toNat < L.length := by omega
  exact ⟨L[r.toNat], List.getElem_mem hlt, List.getElem?_eq_getElem hlt, atI_of h0 (by rw [List.getElem?_map, List.getElem?_eq_getElem hlt]; rfl)⟩
theorem abc3 {i : Int} (h0 : 0 ≤ i) (h1 : i < 3) : ∃ c, atI ("abc" : Str).cps.toList i = some c ∧ inV (.str ⟨#[c]⟩) (marks.map V.str) = true ∧ PyData.strOk ⟨#[c]⟩ = true := by
  have h : i = 0 ∨ i = 1 ∨ i = 2 := by omega
  rcases h with rfl | rfl | rfl
  · exact ⟨97, rfl, by decide +kernel, by decide +kernel⟩
  · exact ⟨98, rfl, by decide +kernel, by decide +kernel⟩
  · exact ⟨99, rfl, by decide +kernel, by decide +kernel⟩
theorem Pool.ne {H : Hp} {p a : Addr} (h : Pool H p) {o : HO} (ha : H a = some o) (hn : ∀ l, o ≠ .lst l) : a ≠ p := fun z => by
  obtain ⟨u, hu, ⟨c, ds, e, _⟩⟩ := h
  rw [z, hu] at ha
  exact hn _ ((Option.some.inj ha).symm.trans e)
theorem DictC.exP {H H' : Hp} {p d : Addr} {cs : List Cell} (hp : Pool H p) (b : ExB p H H') (h : DictC H d cs) : DictC H' d cs := let ⟨kvs, h1, h2, h3⟩ := h; ⟨kvs, b _ _ (hp.ne h1 (fun _ z => nomatch z)) h1, h2.mono fun c v ⟨t, e, ht⟩ => ⟨t, e, b _ _ (hp.ne ht (fun _ z => nomatch z)) ht⟩, h3⟩
theorem DictN.exP {H H' : Hp} {p d : Addr} {ns : List (Str × Int)} (hp : Pool H p) (b : ExB p H H') (h : DictN H d ns) : DictN H' d ns := ⟨b _ _ (hp.ne h.1 (fun _ z => nomatch z)) h.1, h.2⟩
theorem PartAt.exP {H H' : Hp} {p d : Addr} {pl : List Int} (hp : Pool H p) (b : ExB p H H') (h : PartAt H pl d) : PartAt H' pl d := let ⟨cs, a, i⟩ := h; ⟨cs, a.exP hp b, i⟩
theorem part_len {H : Hp} {d : Addr} {cs : List Cell} {pl : List Int} (h : DictC H d cs) (i : ∀ c, c ∈ cs → CellIn c ∧ c.a ∈ pl) : cs.length ≤ pl.length := by
  obtain ⟨_, _, _, nd⟩ := h
  have := nodup_le (ckeys nd) (l2 := pl) (fun x hx => by
    obtain ⟨c, hc, e⟩ := List.mem_map.mp hx
    rw [← e]
    exact (i c hc).2)
  rwa [List.length_map] at this
theorem DictC.exT {H H' : Hp} {d : Addr} {cs : List Cell} (e : ExT H H') (h : DictC H d cs) : DictC H' d cs := let ⟨kvs, h1, h2, h3⟩ := h; ⟨kvs, e _ _ (fun _ z => nomatch z) h1, h2.mono fun c v => TRow.exT e, h3⟩
/-! ### _law_large, _law_drawn -/
def spLarge : Sp := fun vs H Q _ => ∃ (a : Addr) (m : Int), vs = [.ref a, .int m] ∧ Pool H a ∧ 0 < m ∧ ∀ r H1, 0 ≤ r → r < m → Pool H1 a → ExB a H H1 → Q (.int r) H1
def RowD (p : Addr) (H : Hp) (size : Int) (v : V) : Prop := ∃ (t : Addr) (m : Str) (l s : Int), v = .ref t ∧ t ≠ p ∧ H t = some (.tup [.str m, .int l, .int s]) ∧ inV (.str m) (marks.map V.str) = true ∧ PyData.strOk m = true ∧ (0 ≤ l ∧ l < size + 3) ∧ (1 ≤ s ∧ s ≤ 12)
theorem RowD.mv {p q : Addr} {H H' H2 : Hp} {size : Int} {v : V} {rs : List V} (b : ExB p H H') (b2 : ExB q H' H2) (hq : H q = some (.lst rs)) (h : RowD p H size v) : RowD p H2 size v := by
  obtain ⟨t, m, l, s, e, n1, h1, g⟩ := h
  exact ⟨t, m, l, s, e, n1, b2 _ _ (fun z => by rw [z, hq] at h1; cases h1) (b _ _ n1 h1), g⟩
theorem RowD.ex {p : Addr} {H H' : Hp} {size : Int} {v : V} (b : ExB p H H') (h : RowD p H size v) : RowD p H' size v := by
  obtain ⟨t, m, l, s, e, n1, h1, g⟩ := h
  exact ⟨t, m, l, s, e, n1, b _ _ n1 h1, g⟩
theorem RowD.exD {p q : Addr} {H H' : Hp} {size : Int} {v : V} {kvs : List (L2.Key × V)} (hq : H q = some (.dK kvs)) (b : ExB q H H') (h : RowD p H size v) : RowD p H' size v := by
  obtain ⟨t, m, l, s, e, n1, h1, g⟩ := h
  exact ⟨t, m, l, s, e, n1, b _ _ (fun z => by rw [z, hq] at h1; cases h1) h1, g⟩
structure DrawnOk (H H' : Hp) (na ca la : Addr) (ns : List (Str × Int)) (xs : List Cell) (pl : List Int) : Prop where
  names : DictN H' na ns
  nin : ∀ n, n ∈ ns → NmIn n
  nl : ns.length ≤ 8
  cells : DictC H' ca xs
  cin : ∀ c, c ∈ xs → CellIn c
  cl : xs.length ≤ 60
  pls : H' la = some (.lst (pl.map V.int))
  pll : 1 ≤ pl.length ∧ pl.length ≤ 63
  prg : ∀ q ∈ pl, 0 ≤ q ∧ q ≤ 9999
  ne : na ≠ ca
  fresh : H na = none ∧ H ca = none ∧ H la = none
def spDrawn : Sp := fun vs H Q _ => ∃ (p : Addr), vs = [.ref p] ∧ Pool H p ∧ ∀ H' t na ca la ns xs pl, ExB p H H' → Pool H' p → H' t = some (.tup [.ref na, .ref ca, .ref la]) → DrawnOk H H' na ca la ns xs pl → Q (.ref t) H'
def RwD (p rw0 : Addr) (size many : Int) (H : Hp) (i : Nat) (σ : L2.St) (H' : Hp) : Prop := ∃ (v4 v5 v6 v7 : Option V) (rs : List V), σ = [some (.ref p), some (.int size), some (.int many), some (.ref rw0), v4, v5, v6, v7, none, none, none, none, none, none] ∧ ExB p H H' ∧ Pool H' p ∧ H' rw0 = some (.lst rs) ∧ rs.length = i ∧ ∀ v ∈ rs, RowD p H' size v
def ValD (p rw0 vl : Addr) (size many : Int) (v5 v6 v7 : Option V) (Hb : Hp) (i : Nat) (σ : L2.St) (H' : Hp) : Prop := ∃ (v4 : Option V) (vs : List Int), σ = [some (.ref p), some (.int size), some (.int many), some (.ref rw0), v4, v5, v6, v7, some (.ref vl), none, none, none, none, none] ∧
  ExB p Hb H' ∧ Pool H' p ∧ H' vl = some (.lst (vs.map V.int)) ∧ vs.length = i ∧ ∀ v ∈ vs, 0 ≤ v ∧ v < size + 3
def NmD (p rw0 vl wl la nd cd : Addr) (size many : Int) (v5 v6 v7 : Option V) (zs : List Str) (Hb : Hp) (i : Nat) (σ : L2.St) (H' : Hp) : Prop := ∃ (v4 : Option V) (ns : List (Str × Int)), σ = [some (.ref p), some (.int size), some (.int many), some (.ref rw0), v4, v5, v6, v7, some (.ref vl), some (.ref wl), some (.ref la), some (.ref nd), some (.ref cd), none] ∧
  ExB nd Hb H' ∧ H' nd = some (.dK (kvN ns)) ∧ ns.map (·.1) = zs.take i ∧ ∀ n ∈ ns, NmIn n
def ClD (p rw0 vl wl la nd cd : Addr) (size many : Int) (pl : List Int) (Hb : Hp) (i : Nat) (σ : L2.St) (H' : Hp) : Prop := ∃ (v4 v5 v6 v7 v13 : Option V), σ = [some (.ref p), some (.int size), some (.int many), some (.ref rw0), v4, v5, v6, v7, some (.ref vl), some (.ref wl), some (.ref la), some (.ref nd), some (.ref cd), v13] ∧
  ExB cd Hb H' ∧ PartAt H' pl cd
section
variable {P : Program} {w : World} {K : PySem.W.Frag} {mg : Str → Option Value} {base : Heap}
theorem c_l_large (T : Tx w K mg) : Cal P w K mg base CX0 2 "_law_large" ["pool", "many"] spLarge := by
  refine cal_mk T.D_l_large T.m__law_large sc_l_large (fun _ _ _ _ _ _ us hl => match us, hl with | [_, _], _ => rfl) (fun vs H Q E h => ?_) (fun f cdv A outer s H vs Q E hr h => ?_)
  · obtain ⟨a, m, rfl, _⟩ := h
    rfl
  · obtain ⟨a, m, rfl, hP, hm, k⟩ := h
    refine ⟨_, ((pss_cons (ps_set (i := 2) sc_l_large.nd rfl (Or.inl rfl) (by exact pe_cal (c_l_draw T) hr (by decide) rfl pass0 (pa_cons (pv 0) (pa_cons pe_int pa_nil))))
  (pss_one (ps_ret (pe_op o_mod (pe_callTy cr_int rfl T.f_int (by decide +kernel) (pa_cons (pe_op o_add (pv 2) (pe_op o_mul pe_int (by exact pe_cal (c_l_draw T) hr (by decide) rfl pass0 (pa_cons (pv 0) (pa_cons pe_int pa_nil))))) pa_nil)) (pv 1)))))), ?_⟩
    try dsimp only [cxOf, Cx.nox]
    repeat walk_at "st"
    refine ⟨a, 60, rfl, hP, by decide, fun r1 H1 h1 h2 P1 b1 => ?_⟩
    repeat walk_at "st"
    refine ⟨a, 60, rfl, P1, by decide, fun r2 H2 h3 h4 P2 b2 => ?_⟩
    repeat walk_at "st"
    exact k _ _ (Int.emod_nonneg _ (by omega)) (Int.emod_lt_of_pos _ hm) P2 (b1.trans b2)
theorem c_l_drawn (T : Tx w K mg) : Cal P w K mg base CX0 3 "_law_drawn" ["pool"] spDrawn := by
  refine cal_mk T.D_l_drawn T.m__law_drawn sc_l_drawn (fun _ _ _ _ _ _ us hl => match us, hl with | [_], _ => rfl) (fun vs H Q E h => ?_) (fun f cdv A outer s H vs Q E hr h => ?_)
  · obtain ⟨p, rfl, _⟩ := h
    rfl
  · obtain ⟨p, rfl, hP, k⟩ := h
    have hu := hu_of hr
    refine ⟨_, ((pss_cons (ps_set (i := 1) sc_l_drawn.nd rfl (Or.inl rfl) (pe_ix (ix_listK (K := K) rfl) (pe_lst (pa_cons pe_int (pa_cons pe_int (pa_cons pe_int (pa_cons pe_int (pa_cons pe_int (pa_cons pe_int (pa_cons pe_int (pa_cons pe_int pa_nil))))))))) (by exact pe_cal (c_l_draw T) hr (by decide) rfl pass0 (pa_cons (pv 0) (pa_cons pe_int pa_nil))) (fun _ _ => rfl)))
  (pss_cons (ps_set (i := 2) sc_l_drawn.nd rfl (Or.inl rfl) (pe_ix (ix_listK (K := K) rfl) (pe_lst (pa_cons pe_int (pa_cons pe_int (pa_cons pe_int (pa_cons pe_int (pa_cons pe_int (pa_cons pe_int (pa_cons pe_int (pa_cons pe_int pa_nil))))))))) (by exact pe_cal (c_l_draw T) hr (by decide) rfl pass0 (pa_cons (pv 0) (pa_cons pe_int pa_nil))) (fun _ _ => rfl)))
  (pss_cons (ps_set (i := 3) sc_l_drawn.nd rfl (Or.inl rfl) (pe_lst pa_nil))
  (pss_cons (ps_for PassesOwn.never rfl (pi_range1 rfl T.f_range (pa_cons (pv 1) pa_nil)) (pg_name (i := 4) sc_l_drawn.nd rfl (Or.inl rfl)) (pss_cons (ps_set (i := 5) sc_l_drawn.nd rfl (Or.inl rfl) (pe_op o_add (pv 4) pe_int))
  (pss_cons (ps_if (pt_cmpR o_lt (pv 4) pe_int (nomark _)) (pss_one (ps_set (i := 5) sc_l_drawn.nd rfl (Or.inl rfl) (pe_ix (ix_listK (K := K) rfl) (pe_lst (pa_cons pe_int (pa_cons pe_int (pa_cons pe_int (pa_cons pe_int (pa_cons pe_int (pa_cons pe_int (pa_cons pe_int pa_nil)))))))) (pv 4) (fun _ _ => rfl)))) pss_nil)
  (pss_cons (ps_set (i := 6) sc_l_drawn.nd rfl (Or.inl rfl) (pe_op o_mod (pe_callTy cr_int rfl T.f_int (by decide +kernel) (pa_cons (pe_op o_add (pv 5) (by exact pe_cal (c_l_draw T) hr (by decide) rfl pass0 (pa_cons (pv 0) (pa_cons (pe_op o_add (pv 1) pe_int) pa_nil)))) pa_nil)) (pe_op o_add (pv 1) pe_int)))
  (pss_cons (ps_set (i := 7) sc_l_drawn.nd rfl (Or.inl rfl) (pe_op o_add pe_int (pe_op o_mod (pe_callTy cr_int rfl T.f_int (by decide +kernel) (pa_cons (pe_op o_add pe_int (by exact pe_cal (c_l_draw T) hr (by decide) rfl pass0 (pa_cons (pv 0) (pa_cons pe_int pa_nil)))) pa_nil)) pe_int)))
  (pss_one (ps_expr (pe_bm PySem.F.plainAttrs_list PySem.F.slot_list_append PySem.F.type_list_append mt_append (pv 3) (pa_cons (pe_tup (pa_cons (pe_ix ix_str pe_str (pe_op o_mod (pe_callTy cr_int rfl T.f_int (by decide +kernel) (pa_cons (pe_op o_add (pv 4) (by exact pe_cal (c_l_draw T) hr (by decide) rfl pass0 (pa_cons (pv 0) (pa_cons pe_int pa_nil)))) pa_nil)) pe_int) (fun _ _ => rfl)) (pa_cons (pv 6) (pa_cons (pv 7) pa_nil)))) pa_nil)))))))))
  (pss_cons (ps_set (i := 8) sc_l_drawn.nd rfl (Or.inl rfl) (pe_lst pa_nil))
  (pss_cons (ps_for PassesOwn.never rfl (pi_range1 rfl T.f_range (pa_cons (pv 2) pa_nil)) (pg_name (i := 4) sc_l_drawn.nd rfl (Or.inl rfl)) (pss_one (ps_expr (pe_bm PySem.F.plainAttrs_list PySem.F.slot_list_append PySem.F.type_list_append mt_append (pv 8) (pa_cons (pe_op o_mod (pe_callTy cr_int rfl T.f_int (by decide +kernel) (pa_cons (pe_op o_add (pe_op o_add (pe_op o_mul pe_int (pv 4)) pe_int) (by exact pe_cal (c_l_draw T) hr (by decide) rfl pass0 (pa_cons (pv 0) (pa_cons (pe_op o_add (pv 1) pe_int) pa_nil)))) pa_nil)) (pe_op o_add (pv 1) pe_int)) pa_nil)))))
  (pss_cons (ps_set (i := 9) sc_l_drawn.nd rfl (Or.inl rfl) (by exact pe_cal (c_l_names T) hr (by decide) rfl pass0 (pa_cons (pv 0) (pa_cons (pv 2) pa_nil))))
  (pss_cons (ps_set (i := 10) sc_l_drawn.nd rfl (Or.inl rfl) (by exact pe_cal (c_l_places T) hr (by decide) rfl pass0 (pa_cons (pv 0) (pa_cons (pe_op o_add (pv 1) pe_int) pa_nil))))
  (pss_cons (ps_par (i := 11) (j := 12) rfl sc_l_drawn.nd rfl rfl (by decide) rfl rfl (pa_cons pe_dnewK (pa_cons pe_dnewK pa_nil)) rfl)
  (pss_cons (ps_for PassesOwn.never rfl (pi_range1 rfl T.f_range (pa_cons (pe_callB cr_len rfl T.f_len (by decide +kernel) (pa_cons (pv 9) pa_nil)) pa_nil)) (pg_name (i := 4) sc_l_drawn.nd rfl (Or.inl rfl)) (pss_one (ps_dput hu (pv 11) (pe_ix (ix_listK (K := K) rfl) (pv 9) (pv 4) (fun _ _ => rfl)) (pe_ix (ix_listK (K := K) rfl) (pv 10) (pe_ix (ix_listK (K := K) rfl) (pv 8) (pv 4) (fun _ _ => rfl)) (fun _ _ => rfl)) rfl)))
  (pss_cons (ps_for PassesOwn.never rfl (pi_range1 rfl T.f_range (pa_cons (pv 1) pa_nil)) (pg_name (i := 4) sc_l_drawn.nd rfl (Or.inl rfl)) (pss_cons (ps_asg (pe_ix (ix_listK (K := K) rfl) (pv 3) (pv 4) (fun _ _ => rfl)) (pg_tup (n := 3) rfl (pgs_cons (pg_name (i := 13) sc_l_drawn.nd rfl (Or.inl rfl)) (pgs_cons (pg_name (i := 6) sc_l_drawn.nd rfl (Or.inl rfl)) (pgs_cons (pg_name (i := 7) sc_l_drawn.nd rfl (Or.inl rfl)) pgs_nil)))))
  (pss_one (ps_dput hu (pv 12) (pe_ix (ix_listK (K := K) rfl) (pv 10) (pe_op o_add (pv 4) pe_int) (fun _ _ => rfl)) (pe_tup (pa_cons (pv 13) (pa_cons (pe_ix (ix_listK (K := K) rfl) (pv 10) (pv 6) (fun _ _ => rfl)) (pa_cons (pv 7) pa_nil)))) rfl))))
  (pss_one (ps_ret (pe_tup (pa_cons (pv 11) (pa_cons (pv 12) (pa_cons (pv 10) pa_nil)))))))))))))))))), ?_⟩
    dsimp only [cxOf, Cx.nox]
    repeat walk_at "st"
    intro q1 H1 hq1 e1 h1
    repeat walk_at "st"
    refine ⟨p, 8, rfl, hP.ex e1, by decide, fun r1 H2 r10 r11 P2 b2 => ?_⟩
    have h2 := b2 _ _ (npool hP hq1) h1
    obtain ⟨size, hsz, hs⟩ := pick [6, 3, 5, 7, 1, 60, 0, 2] r10 (by exact r11)
    have hsz2 : 0 ≤ size ∧ size ≤ 60 := by
      have : ∀ v ∈ [(6 : Int), 3, 5, 7, 1, 60, 0, 2], 0 ≤ v ∧ v ≤ 60 := by decide
      exact this size hsz
    refine k_ixL (.inl (.inl h2)) hs ?_
    repeat walk_at "st"
    intro q3 H3 hq3 e3 h3
    repeat walk_at "st"
    refine ⟨p, 8, rfl, P2.ex e3, by decide, fun r2 H4 r20 r21 P4 b4 => ?_⟩
    have h4 := b4 _ _ (npool P2 hq3) h3
    obtain ⟨many, hmn, hm⟩ := pick [2, 1, 3, 0, 2, 8, 4, 5] r20 (by exact r21)
    have hmn2 : 0 ≤ many ∧ many ≤ 8 := by
      have : ∀ v ∈ [(2 : Int), 1, 3, 0, 2, 8, 4, 5], 0 ≤ v ∧ v ≤ 8 := by decide
      exact this many hmn
    refine k_ixL (.inl (.inl h4)) hm ?_
    repeat walk_at "st"
    intro rw0 H7 hrw e7 h7
    repeat walk_at "st"
    have P7 : Pool H7 p := P4.ex e7
    have b04 : ExB p H H4 := (ExB.of e1).trans (b2.trans ((ExB.of e3).trans b4))
    have b07 : ExB p H H7 := b04.trans (ExB.of e7)
    have nlp : rw0 ≠ p := npool P4 hrw
    refine for_range (lo := 0) (RwD p rw0 size many H) ⟨none, none, none, none, [], rfl, b07, P7, h7, rfl, (fun _ h => nomatch h)⟩ (fun i σ' H' hi ⟨v4, v5, v6, v7, rs, es, b, hP', hL, hlen, rg⟩ => ?_) (fun σ' H' ⟨v4, v5, v6, v7, rs, es, b, hP', hL, hlen, rg⟩ => ?_)
    · subst es
      repeat walk_at "st"
      by_cases c7 : (0 + (i : Int)) < 7
      case' pos =>
        refine k_iteT c7 ?_
        repeat walk_at "st"
        intro qx Hn hqx eN hqxl
        repeat walk_at "st"
        obtain ⟨low, _, hlow⟩ := pick [2, 3, 2, 5, 0, 7, 4] (r := 0 + (i : Int)) (by omega) (by show _ < (7 : Int); omega)
        refine k_ixL (.inl (.inl hqxl)) hlow ?_
        repeat walk_at "st"
      case' neg =>
        refine k_iteF c7 ?_
        repeat walk_at "st"
        obtain ⟨Hn, hHn⟩ : ∃ Hn, Hn = H' := ⟨_, rfl⟩
        rw [← hHn]
        have eN : Ex H' Hn := by rw [hHn]; exact Ex.refl _
        obtain ⟨low, hlow⟩ : ∃ low : Int, low = 0 + (i : Int) + 2 := ⟨_, rfl⟩
        rw [← hlow]
      all_goals
        have Pn := hP'.ex eN
        refine ⟨p, size + 3, rfl, Pn, by omega, fun r5 H8 r50 r51 P8 b8 => ?_⟩
        repeat walk_at "st"
        refine ⟨p, 12, rfl, P8, by decide, fun r6 H9 r60 r61 P9 b9 => ?_⟩
        have l9 := ((ExB.of eN).trans (b8.trans b9)) _ _ nlp hL
        repeat walk_at "st"
        refine ⟨p, 3, rfl, P9, by decide, fun r7 H10 r70 r71 P10 b10 => ?_⟩
        repeat walk_at "st"
        obtain ⟨link, elk, hlk⟩ : ∃ l1, l1 = (low + r5) % (size + 3) ∧ 0 ≤ l1 ∧ l1 < size + 3 := ⟨_, rfl, Int.emod_nonneg _ (by omega), Int.emod_lt_of_pos _ (by omega)⟩
        obtain ⟨shr, esh, hsh⟩ : ∃ l1, l1 = 1 + (11 + r6) % 12 ∧ 1 ≤ l1 ∧ l1 ≤ 12 := ⟨_, rfl, by have := Int.emod_nonneg (11 + r6) (show (12 : Int) ≠ 0 by decide); omega, by have := Int.emod_lt_of_pos (11 + r6) (show (0 : Int) < 12 by decide); omega⟩
        rw [← elk, ← esh]
        obtain ⟨c, hca, hcm, hcs⟩ := abc3 (i := (0 + (i : Int) + r7) % 3) (Int.emod_nonneg _ (by decide)) (Int.emod_lt_of_pos _ (by decide))
        refine ⟨"abc", _, c, rfl, rfl, by rw [sizeLine_eq]; decide, hca, ?_⟩
        repeat walk_at "st"
        intro t11 H11 ht11 e11 h11
        have bE : ExB p H' H10 := (ExB.of eN).trans (b8.trans (b9.trans b10))
        have l10 := bE _ _ nlp hL
        have l11 := e11.get l10
        repeat walk_at "st"
        intro H12 b12 h12
        have P11 : Pool H11 p := P10.ex e11
        have bE2 : ExB p H' H11 := bE.trans (ExB.of e11)
        refine ⟨_, _, _, _, rs ++ [.ref t11], rfl, ?_, P11.exB (Ne.symm nlp) b12, h12, by rw [List.length_append, hlen]; rfl, fun v hv => ?_⟩
        · exact ExB.skip (b.trans bE2) (ExB.back b04 nlp hrw) b12
        · rcases List.mem_append.mp hv with q | q
          · exact (rg v q).mv bE2 b12 hL
          · have : v = .ref t11 := by simpa using q
            rw [this]
            exact ⟨t11, ⟨#[c]⟩, link, shr, rfl, npool P10 ht11, b12 _ _ (fun z => by rw [z, l10] at ht11; cases ht11) h11, hcm, hcs, hlk, hsh⟩
    · subst es
      repeat walk_at "st"
      intro q20 H20 hq20 e20 h20
      have nvl : q20 ≠ p := npool hP' hq20
      have P20 := hP'.ex e20
      have b20 : ExB p H H20 := b.trans (ExB.of e20)
      repeat walk_at "st"
      refine for_range (lo := 0) (ValD p rw0 q20 size many v5 v6 v7 H') ⟨_, [], rfl, ExB.of e20, P20, h20, rfl, fun _ h => nomatch h⟩ (fun i σ' H2 hi ⟨v4, vs, es, bv, Pv, hv, lv, gv⟩ => ?_) (fun σ' H2 ⟨v4, vs, es, bv, Pv, hv, lv, gv⟩ => ?_)
      · subst es
        repeat walk_at "st"
        refine ⟨p, size + 3, rfl, Pv, by omega, fun r5 H3 r50 r51 P3 b3 => ?_⟩
        have hv3 := b3 _ _ nvl hv
        repeat walk_at "st"
        intro H4 b4' h4'
        obtain ⟨y, ey, hy⟩ : ∃ y, y = (3 * (0 + (i : Int)) + 1 + r5) % (size + 3) ∧ 0 ≤ y ∧ y < size + 3 := ⟨_, rfl, Int.emod_nonneg _ (by omega), Int.emod_lt_of_pos _ (by omega)⟩
        rw [← ey] at h4'
        have ehd : vs.map V.int ++ [V.int y] = (vs ++ [y]).map V.int := by rw [List.map_append]; rfl
        rw [ehd] at h4'
        refine ⟨_, vs ++ [y], rfl, ExB.skip (bv.trans b3) hq20 b4', P3.exB (Ne.symm nvl) b4', h4', by rw [List.length_append, lv]; rfl, fun v hv => ?_⟩
        rcases List.mem_append.mp hv with q | q
        · exact gv v q
        · rw [List.mem_singleton.mp q]
          exact hy
      · subst es
        repeat walk_at "st"
        have b2' : ExB p H H2 := b.trans bv
        refine ⟨p, many, rfl, Pv, hmn2.1, hmn2.2, fun H3 wl zs b3 P3 hwl h3' nz gz lz _ => ?_⟩
        repeat walk_at "st"
        refine ⟨p, size + 2, rfl, P3, by omega, by omega, fun H5 la ps b5 P5 hla h5 lp np gp => ?_⟩
        repeat walk_at "st"
        refine k_dnew fun nd H6 hnd e6 h6 => ?_
        repeat walk_at "st"
        refine k_dnew fun cd H8 hcd e8 h8 => ?_
        repeat walk_at "st"
        have nwl := npool Pv hwl
        have nla := npool P3 hla
        have eD : Ex H5 H8 := e6.trans e8
        have w8 := eD.get (b5 _ _ nwl h3')
        have l8 := eD.get h5
        have vv8 := eD.get (b5 _ _ nvl (b3 _ _ nvl hv))
        have hL2 := bv _ _ nlp hL
        have r8 := eD.get (b5 _ _ nlp (b3 _ _ nlp hL2))
        have bT : ExB p H' H8 := bv.trans (b3.trans (b5.trans (ExB.of eD)))
        have rg8 : ∀ v ∈ rs, RowD p H8 size v := fun v hv => (rg v hv).ex bT
        have b05 : ExB p H H5 := b2'.trans (b3.trans b5)
        have n8 : H8 nd = some (.dK []) := e8.get h6
        have n_nd : nd ≠ p := npool P5 hnd
        have n_cd : cd ≠ p := npool (P5.ex e6) hcd
        have ncn : nd ≠ cd := ne_of_none h6 hcd
        have hnd0 : H nd = none := ExB.back b05 n_nd hnd
        have hcd0 : H cd = none := ExB.back (b05.trans (ExB.of e6)) n_cd hcd
        have P8' : Pool H8 p := P5.ex eD
        have hz8 : ((zs.map V.str).length : Int) ≤ 8 := by rw [List.length_map]; omega
        repeat walk_at "st"
        refine for_range (lo := 0) (NmD p rw0 q20 wl la nd cd size many v5 v6 v7 zs H8) ⟨_, [], rfl, ExB.of (Ex.refl _), n8, rfl, fun _ h => nomatch h⟩ (fun i σ' Ha hi ⟨v4, ns, es, ba, hna, ens, gns⟩ => ?_) (fun σ' Ha ⟨v4, ns, es, ba, hna, ens, gns⟩ => ?_)
        · subst es
          have hi : i < zs.length := by simpa using hi
          obtain ⟨v, hvm, _, hva⟩ := at_list (L := vs) (r := 0 + (i : Int)) (by omega) (by omega)
          have hv3 := gv v hvm
          obtain ⟨q, hqm, _, hqa⟩ := at_list (L := (0 : Int) :: ps) (r := v) hv3.1 (by rw [List.length_cons, lp]; omega)
          obtain ⟨z, hz, hza⟩ : ∃ z, zs[i]? = some z ∧ atI (zs.map V.str) (0 + (i : Int)) = some (.str z) := ⟨zs[i], List.getElem?_eq_getElem hi, atI_of (by omega) (by rw [List.getElem?_map]; simp [hi])⟩
          have la2 := ba _ _ (ne_of_none h5 hnd) l8
          have wa2 := ba _ _ (ne_of_none (b5 _ _ nwl h3') hnd) w8
          have va2 := ba _ _ (ne_of_none (b5 _ _ nvl (b3 _ _ nvl hv)) hnd) vv8
          repeat walk_at "st"
          refine k_ixL (.inl (.inl va2)) hva ?_
          refine k_ixL (.inl (.inl la2)) hqa ?_
          repeat walk_at "st"
          refine k_ixL (.inl (.inl wa2)) hza ?_
          have hnl : ns.length = i := by
            have := congrArg List.length ens
            rw [List.length_map, List.length_take] at this
            omega
          refine k_dputE (k := Sum.inr z) rfl hna (by unfold kvN; rw [List.length_map, sizeLine_eq]; omega) fun Hc bc hc => ?_
          repeat walk_at "st"
          have hzn : z ∉ ns.map (·.1) := by rw [ens]; exact take_nodup nz hz
          rw [kvN_put (n := (z, q)) hzn] at hc
          refine ⟨_, ns ++ [(z, q)], rfl, ba.trans bc, hc, ?_, fun n hn => ?_⟩
          · rw [List.map_append, ens, List.take_add_one, hz]
            rfl
          · rcases List.mem_append.mp hn with w | w
            · exact gns n w
            · rw [List.mem_singleton.mp w]
              have g := gz z (List.mem_of_getElem? hz)
              have hq : 0 ≤ q ∧ q ≤ 9999 := by
                rcases List.mem_cons.mp hqm with w | w
                · omega
                · have := gp q w; omega
              exact ⟨g.1, g.2.1, hq.1, hq.2, g.2.2⟩
        · subst es
          have hpl1 : ps.length = size.toNat + 2 := by omega
          have ens2 : ns.map (·.1) = zs := by rw [ens, List.length_map]; exact List.take_of_length_le (Nat.le_refl _)
          have hN : DictN Ha nd ns := ⟨hna, by rw [ens2]; exact nz⟩
          have nsl : ns.length ≤ 8 := by
            have := congrArg List.length ens2
            rw [List.length_map] at this
            omega
          have bHa : ExB p H Ha := ExB.skip (b05.trans (ExB.of eD)) hnd0 ba
          have rga : ∀ v ∈ rs, RowD p Ha size v := fun v hv => (rg8 v hv).exD n8 ba
          have laa := ba _ _ (ne_of_none h5 hnd) l8
          have raa := ba _ _ (ne_of_none (b5 _ _ nlp (b3 _ _ nlp hL2)) hnd) r8
          have caa : Ha cd = some (.dK []) := ba _ _ (Ne.symm ncn) h8
          have Pa : Pool Ha p := P8'.exB (Ne.symm n_nd) ba
          have A0 : PartAt Ha (ps.take size.toNat) cd := ⟨[], ⟨[], caa, .nil, List.nodup_nil⟩, fun _ h => nomatch h⟩
          have n_la : la ≠ cd := ne_of_none (e6.get h5) hcd
          have n_rw : rw0 ≠ cd := ne_of_none (e6.get (b5 _ _ nlp (b3 _ _ nlp hL2))) hcd
          repeat walk_at "st"
          refine for_range (lo := 0) (ClD p rw0 q20 wl la nd cd size many (ps.take size.toNat) Ha) ⟨_, _, _, _, _, rfl, ExB.of (Ex.refl _), A0⟩ (fun i σ' Hb hi ⟨v4, v5, v6, v7, v13, es, bb, B0⟩ => ?_) (fun σ' Hb ⟨v4, v5, v6, v7, v13, es, bb, B0⟩ => ?_)
          · subst es
            have hir : i < rs.length := by omega
            have lb := bb _ _ n_la laa
            have rb := bb _ _ n_rw raa
            obtain ⟨t, m, l, s, er, n1, ht, gm, gmo, gl, gs⟩ := (rga rs[i] (List.getElem_mem hir)).exD caa bb
            have hra : atI rs (0 + (i : Int)) = some (.ref t) := atI_of (by omega) (by rw [← er]; simp [hir])
            have hip : i < ps.length := by omega
            have hpa : atI (((0 : Int) :: ps).map V.int) (0 + (i : Int) + 1) = some (.int ps[i]) := atI_of (by omega) (by
              have e : (0 + (i : Int) + 1).toNat = i + 1 := by omega
              rw [e, List.getElem?_map, List.getElem?_cons_succ, List.getElem?_eq_getElem hip]
              rfl)
            have hpm : ps[i] ∈ ps.take size.toNat := List.mem_iff_getElem?.mpr ⟨i, by rw [List.getElem?_take, if_pos (by omega)]; simp [hip]⟩
            obtain ⟨q, hqm, _, hqa⟩ := at_list (L := (0 : Int) :: ps) (r := l) gl.1 (by rw [List.length_cons]; omega)
            have hq : 0 ≤ q ∧ q ≤ 9999 := by
              rcases List.mem_cons.mp hqm with w | w
              · omega
              · have := gp q w; omega
            repeat walk_at "st"
            refine k_ixL (.inl (.inl rb)) hra ?_
            repeat walk_at "st"
            refine k_ixL (.inl (.inl lb)) hqa ?_
            repeat walk_at "st"
            intro tr Hd htr ed hdr
            repeat walk_at "st"
            refine k_ixL (.inl (.inl (ed.get lb))) hpa ?_
            have hcell : CellIn ⟨ps[i], m, q, s⟩ ∧ (⟨ps[i], m, q, s⟩ : Cell).a ∈ ps.take size.toNat := ⟨⟨gp _ (List.getElem_mem hip), gm, hq, gs, gmo⟩, hpm⟩
            obtain ⟨kvs, hkv, hkl⟩ : ∃ kvs, Hd cd = some (.dK kvs) ∧ kvs.length ≤ 60 := by
              obtain ⟨cs, ⟨kvs, z1, z2, z3⟩, hi2⟩ := B0.ex ed
              refine ⟨kvs, z1, ?_⟩
              have := part_len ⟨kvs, z1, z2, z3⟩ hi2
              rw [List.length_take, ← rows_len z2] at this
              omega
            refine k_dputE (k := kC ⟨ps[i], m, q, s⟩) rfl hkv (by rw [sizeLine_eq]; omega) fun He bH hH => ?_
            exact ⟨_, _, _, _, _, rfl, (bb.trans (ExB.of ed)).trans bH, (B0.ex ed).put hkv bH hH hdr hcell⟩
          · subst es
            obtain ⟨xs, hxs, hxi⟩ := B0
            have hxl := part_len hxs hxi
            rw [List.length_take] at hxl
            have nb : nd ≠ cd := ncn
            repeat walk_at "st"
            intro tt Hf htt ef hf
            have hb0 : ExB p H Hf := (ExB.skip bHa hcd0 bb).trans (ExB.of ef)
            have Pb : Pool Hb p := Pa.exB (Ne.symm n_cd) bb
            refine k Hf tt nd cd la ns xs ((0 : Int) :: ps) hb0 (Pb.ex ef) hf ⟨(DictN.exB nb bb hN).ex ef, gns, nsl, hxs.ex ef, fun c hc => (hxi c hc).1, by omega, ef.get (bb _ _ n_la laa), ⟨by simp, by rw [List.length_cons]; omega⟩, fun q hq => ?_, ncn, hnd0, hcd0, ExB.back (b2'.trans b3) nla hla⟩
            rcases List.mem_cons.mp hq with w | w
            · omega
            · have := gp q w; omega
end


/-! ### _law_with -/
theorem kvN_drop (ns : List (Str × Int)) (x : Str) : dropK (kvN ns) (Sum.inr x) = kvN (ns.filter fun n => decide (n.1 ≠ x)) := by
  unfold dropK kvN
  rw [List.filter_map]
  congr 1
  refine List.filter_congr fun n _ => ?_
  exact decide_eq_decide.mpr (not_congr ⟨fun z => Sum.inr.inj z, fun z => congrArg Sum.inr z⟩)
def setN (ns : List (Str × Int)) (x : Str) (v : Int) : List (Str × Int) := ns.map fun n => if n.1 = x then (n.1, v) else n
theorem setN_keys (ns : List (Str × Int)) (x : Str) (v : Int) : (setN ns x v).map (·.1) = ns.map (·.1) := by
  unfold setN
  rw [List.map_map]
  refine List.map_congr_left fun n _ => ?_
  show (if n.1 = x then (n.1, v) else n).1 = n.1
  split <;> rfl
theorem kvN_set {ns : List (Str × Int)} {x : Str} {v w : Int} (h : valV (kvN ns) (Sum.inr x) = some (.int w)) : putK (kvN ns) (Sum.inr x) (.int v) = kvN (setN ns x v) := by
  unfold putK
  rw [valV_any, h, if_pos (show (some (V.int w)).isSome = true from rfl)]
  unfold kvN setN
  rw [List.map_map, List.map_map]
  refine List.map_congr_left fun n _ => ?_
  show (if (Sum.inr n.1 : L2.Key) = Sum.inr x then ((Sum.inr n.1 : L2.Key), V.int v) else (Sum.inr n.1, V.int n.2)) = (Sum.inr (if n.1 = x then (n.1, v) else n).1, V.int (if n.1 = x then (n.1, v) else n).2)
  by_cases e : n.1 = x
  · rw [if_pos (by rw [e]), if_pos e]
  · rw [if_neg (fun z => e (Sum.inr.inj z)), if_neg e]
section
variable {K : PySem.W.Frag} {H H' : Hp} {l : Addr} {kvs : List (L2.Key × V)}
theorem HeapNew.exB {H0 : Hp} {k0 : List (L2.Key × V)} {p : Addr} {ns : List (Str × Int)} {cs : List Cell} (h0 : H0 l = some (.dK k0)) (hl : H l = some (.dK kvs)) (b : ExB l H H') (h : HeapNew K H0 H p ns cs) : HeapAt K H' p ns cs := by
  obtain ⟨dx, tn, tc, d, kws, a, n⟩ := h
  exact ⟨dx, tn, tc, d, kws, b _ _ (ne_of a.ins hl (fun z => nomatch z)) a.ins, Dp_exD hl b _ _ a.nms, Dp_exD hl b _ _ a.cls, b _ _ (fun z => by rw [z, h0] at n; cases n) a.dic, a.rows.mono fun c v => TRow.exB hl b, a.lc, a.ln, a.co, a.no, a.sn, a.sc⟩
end
/-- more[name] = value -/
theorem put_names {ms : List (Str × Int)} {z : Str} {v : Int} (nd : (ms.map (·.1)).Nodup) (hi : ∀ n, n ∈ ms → NmIn n) (hz : NmIn (z, v)) : ∃ mo : List (Str × Int), putK (kvN ms) (Sum.inr z) (.int v) = kvN mo ∧ (mo.map (·.1)).Nodup ∧ (∀ n, n ∈ mo ↔ n = (z, v) ∨ (n ∈ ms ∧ n.1 ≠ z)) ∧ mo.length ≤ ms.length + 1 ∧ ∀ n, n ∈ mo → NmIn n := by
  have key : ∀ mo : List (Str × Int), (∀ n, n ∈ mo ↔ n = (z, v) ∨ (n ∈ ms ∧ n.1 ≠ z)) → ∀ n, n ∈ mo → NmIn n := fun mo h n hn => by
    rcases (h n).mp hn with rfl | ⟨q, _⟩
    · exact hz
    · exact hi n q
  by_cases hk : z ∈ ms.map (·.1)
  · obtain ⟨n, hn, rfl⟩ := List.mem_map.mp hk
    have hm : ∀ k, k ∈ setN ms n.1 v ↔ k = (n.1, v) ∨ (k ∈ ms ∧ k.1 ≠ n.1) := fun k => by
      unfold setN
      rw [List.mem_map]
      constructor
      · rintro ⟨m, hm, rfl⟩
        by_cases e : m.1 = n.1
        · rw [if_pos e]
          exact .inl (by rw [e])
        · rw [if_neg e]
          exact .inr ⟨hm, e⟩
      · rintro (rfl | ⟨h1, h2⟩)
        · exact ⟨n, hn, by rw [if_pos rfl]⟩
        · exact ⟨k, h1, by rw [if_neg h2]⟩
    exact ⟨setN ms n.1 v, kvN_set (kvN_some nd hn), by rw [setN_keys]; exact nd, hm, by unfold setN; rw [List.length_map]; omega, key _ hm⟩
  · have hm : ∀ k, k ∈ ms ++ [(z, v)] ↔ k = (z, v) ∨ (k ∈ ms ∧ k.1 ≠ z) := fun k => by
      rw [List.mem_append, List.mem_singleton]
      constructor
      · rintro (h | h)
        · exact .inr ⟨h, fun e => hk (List.mem_map.mpr ⟨k, h, e⟩)⟩
        · exact .inl h
      · rintro (h | ⟨h, _⟩)
        · exact .inr h
        · exact .inl h
    refine ⟨ms ++ [(z, v)], kvN_put (n := (z, v)) hk, ?_, hm, by rw [List.length_append]; simp, key _ hm⟩
    rw [List.map_append]
    refine List.nodup_append.mpr ⟨nd, by simp, fun x hx y hy e => ?_⟩
    have : y = z := by simpa using hy
    exact hk (this ▸ e ▸ hx)
theorem hf_with (tn tc d : Addr) : (hf tn tc d).lookup ("with_name" : Str) = none := by with_unfolding_all rfl
theorem hf_without (tn tc d : Addr) : (hf tn tc d).lookup ("without_name" : Str) = none := by with_unfolding_all rfl
theorem HeapAt.exP {K : PySem.W.Frag} {H H' : Hp} {p h : Addr} {ns : List (Str × Int)} {cs : List Cell} (hp : Pool H p) (b : ExB p H H') (x : HeapAt K H h ns cs) : HeapAt K H' h ns cs := let ⟨o, ho, ⟨c, ds, e, _⟩⟩ := hp; x.exT (ExB.t b (ho.trans (congrArg some e)))
theorem nodup_leG {α : Type} [DecidableEq α] : ∀ {l1 l2 : List α}, l1.Nodup → (∀ x ∈ l1, x ∈ l2) → l1.length ≤ l2.length
  | [], _, _, _ => Nat.zero_le _
  | a :: l, l2, nd, h => by
    have h1 := List.nodup_cons.mp nd
    have ha := h a List.mem_cons_self
    have := nodup_leG (l1 := l) (l2 := l2.erase a) h1.2 fun x hx => by
      have ne : x ≠ a := fun e => h1.1 (e ▸ hx)
      exact (List.mem_erase_of_ne ne).mpr (h x (List.mem_cons_of_mem _ hx))
    rw [List.length_erase_of_mem ha] at this
    have hp := List.length_pos_of_mem ha
    rw [List.length_cons]
    omega
theorem pickS (L : List Str) {r : Int} (h0 : 0 ≤ r) (h1 : r < L.length) : ∃ v, v ∈ L ∧ atI (L.map V.str) r = some (.str v) := by
  have hlt : r.toNat < L.length := by omega
  exact ⟨L[r.toNat], List.getElem_mem hlt, atI_of h0 (by rw [List.getElem?_map, List.getElem?_eq_getElem hlt]; rfl)⟩
theorem k_metK {C : Addr} {m : Str} {n j : Nat} {sp : Sp} {E : XK} {ta : TE} {t tk : TA} {σ : L2.St} {H : Hp} {Q : VK} (h : ta σ H fun x H1 => ∃ a dx fs, x = .ref a ∧ H1 a = some (.ins C dx fs) ∧ fs.lookup m = none ∧ t σ H1 fun vs H2 => tk σ H2 fun zs H3 => vs.length + 1 = n ∧ zs.length = j ∧ sp (x :: (vs ++ zs)) H3 Q E) : tMethK C m n j sp E ta t tk σ H Q := h
def spLWith (K : PySem.W.Frag) : Sp := fun vs H Q _ => ∃ (p h a b l : Addr) (turn : Int) (ns ms : List (Str × Int)) (cs xs : List Cell) (pl : List Int), vs = [.ref p, .ref h, .ref a, .ref b, .ref l, .int turn] ∧ Pool H p ∧ HeapAt K H h ns cs ∧ DictN H a ms ∧ ms.length ≤ 8 ∧ (∀ n, n ∈ ms → NmIn n) ∧ DictC H b xs ∧ xs.length ≤ 60 ∧ (∀ c, c ∈ xs → CellIn c) ∧ (∀ n, n ∈ ns ↔ n ∈ ms) ∧ (∀ c, c ∈ cs ↔ c ∈ xs) ∧ a ≠ b ∧
  H l = some (.lst (pl.map V.int)) ∧ l ≠ p ∧ (1 ≤ pl.length ∧ pl.length ≤ 63) ∧ (∀ q ∈ pl, 0 ≤ q ∧ q ≤ 9999) ∧ (0 ≤ turn ∧ turn ≤ 1) ∧ ∀ H', ExB p H H' → Pool H' p → Q (.bl true) H'
section
variable {P : Program} {w : World} {K : PySem.W.Frag} {mg : Str → Option Value} {base : Heap}
abbrev nmsW : List Str := ["pool", "heap", "names", "cells", "places", "turn", "fresh", "name", "pick", "value", "more", "new", "back", "there"]
theorem c_l_with (Y : Ty P w K mg) (N : NeF K) : Cal P w K mg base CX0 10 "_law_with" ["pool", "heap", "names", "cells", "places", "turn"] (spLWith K) := by
  have T := Y.T
  refine cal_mk T.D_l_with T.m__law_with sc_l_with (fun _ _ _ _ _ _ us hl => match us, hl with | [_, _, _, _, _, _], _ => rfl) (fun vs H Q E h => ?_) (fun f cdv A outer s H vs Q E hr h => ?_)
  · obtain ⟨p, h, a, b, l, turn, ns, ms, cs, xs, pl, rfl, _⟩ := h
    rfl
  · obtain ⟨p, h, a, b, l, turn, ns, ms, cs, xs, pl, rfl, hP, hA, hN, hml, hNi, hC, hxl, hCi, hnn, hcc, hab, hL, hlp, hpl, hpr, htu, k⟩ := h
    have hu := hu_of hr
    have rest2 : ∃ t, PSs (cxOf CX0 P w K mg base ["pool", "heap", "names", "cells", "places", "turn", "fresh", "name", "pick", "value", "more", "new", "back", "there"] "_law_with" (defScope s_l_with) f cdv A outer s H E).nox ((defBody s_l_with).drop 9) t ∧ ∀ (z : Str) (v : Int) (o q : Addr) (ms' mo : List (Str × Int)) (H5 H7 H9 : Hp) (v6 v8 v9 : Option V), ExB p H H5 → Pool H5 p → Ex H5 H9 → NmIn (z, v) →
        H7 o = some (.dK (kvN mo)) → H5 o = none → Ex H7 H9 → (mo.map (·.1)).Nodup → (∀ n, n ∈ mo ↔ n = (z, v) ∨ (n ∈ ms ∧ n.1 ≠ z)) → mo.length ≤ 9 → (∀ n, n ∈ mo → NmIn n) → HeapNew K H7 H9 q ms' cs → (∀ n, n ∈ ms' ↔ n = (z, v) ∨ (n ∈ ns ∧ n.1 ≠ z)) → ms'.length ≤ 9 →
        t { nx := fun _ H' => Q .non H', rt := Q } [some (.ref p), some (.ref h), some (.ref a), some (.ref b), some (.ref l), some (.int turn), v6, some (.str z), v8, v9, some (.ref o), some (.ref q), none, none] H9 := by
      refine ⟨_, ((pss_cons (ps_if (pt_not (pt_val (by exact pe_cal (c_l_right Y) hr (by decide) rfl pass0 (pa_cons (pv 11) (pa_cons (pv 10) (pa_cons (pv 3) (pa_cons (pv 4) pa_nil))))))) (pss_one (ps_ret pe_bl)) pss_nil)
  (pss_cons (ps_set (i := 12) sc_l_with.nd rfl (Or.inl rfl) (by exact pe_met (pv 11) T.cls_Heap (me_Heap_without_name Y) hr (by decide) passF (pa_cons (pv 7) pa_nil)))
  (pss_cons (ps_expr (pe_dpop1 (pv 10) (pv 7) ⟨rfl, rfl, rfl, rfl⟩))
  (pss_cons (ps_if (pt_not (pt_val (by exact pe_cal (c_l_right Y) hr (by decide) rfl pass0 (pa_cons (pv 12) (pa_cons (pv 10) (pa_cons (pv 3) (pa_cons (pe_slice sl_list (pv 4) po_none (po_some pe_int)) pa_nil))))))) (pss_one (ps_ret pe_bl)) pss_nil)
  (pss_cons (ps_set (i := 13) sc_l_with.nd rfl (Or.inl rfl) (pe_cmp (pc_din hu (pv 7) (pv 2)) rfl))
  (pss_one (ps_ret (by exact pe_cal (c_l_same T) hr (by decide) rfl pass0 (pa_cons (pe_tup (pa_cons (pe_cmpR (op_ownEqX (me_Heap_eqX Y) hr (by decide) pass0) (pv 12) (pv 1) (nomark _)) (pa_cons (pe_cmpR (op_ownNeX (me_Heap_eqX Y) N.ne N.so hr (by decide) pass0) (pv 12) (pv 1) (nomark _)) pa_nil))) (pa_cons (pe_tup (pa_cons (pe_not (pv 13)) (pa_cons (pv 13) pa_nil))) pa_nil))))))))))), fun z v o q ms' mo H5 H7 H9 v6 v8 v9 b5 P5 e59 hz ho ho5 e79 mnd mmem mlen mNi hq qmem qlen => ?_⟩
      dsimp only [cxOf, Cx.nox]
      have hA5 := hA.exP hP b5
      have hN5 := hN.exP hP b5
      have hC5 := hC.exP hP b5
      have hL5 := b5 _ _ hlp hL
      have nob : o ≠ b := fun e => by
        obtain ⟨_, q1, _⟩ := hC5
        rw [e, q1] at ho5; cases ho5
      have ho9 := e79.get ho
      have heap_len : ns.length ≤ 20 := by obtain ⟨_, _, _, _, _, q⟩ := hA; exact q.ln
      repeat walk_at "st"
      refine ⟨q, o, b, l, ms', mo, cs, xs, pl, rfl, hq.at, ⟨ho9, mnd⟩, by omega, mNi, hC5.ex e59, hxl, hCi, fun n => by rw [qmem, mmem, hnn], hcc, nob, e59.get hL5, by omega, fun H10 e10 => ?_⟩
      have hq10 := hq.at.ex e10
      obtain ⟨dx, tn, tc, d, kvs, hq1⟩ := id hq10
      repeat walk_at "st"
      refine ⟨q, dx, _, rfl, hq1.ins, hf_without _ _ _, ?_⟩
      repeat walk_at "st"
      refine ⟨q, z, ms', cs, rfl, hq10, by have := hz.2.1; show z.length ≤ 1000; exact Nat.le_trans this (by decide), fun _ H11 q2 bs e11 hq2 bmem => ?_, fun hno => absurd rfl (hno (z, v) ((qmem _).mpr (.inl rfl)))⟩
      have e511 : Ex H5 H11 := e59.trans (e10.trans e11)
      have ho10 := e10.get ho9
      have ho11 := e11.get ho10
      repeat walk_at "st"
      refine ⟨o, rfl, .inl ⟨_, .inl ho11⟩, ?_⟩
      repeat walk_at "st"
      refine ⟨kvN mo, Sum.inr z, .int v, ho11, rfl, kvN_some mnd ((mmem (z, v)).mpr (.inl rfl)), ?_⟩
      have b12 : ExB o H11 (upd H11 o (.dK (dropK (kvN mo) (Sum.inr z)))) := ExB.upd
      have h12 : upd H11 o (.dK (dropK (kvN mo) (Sum.inr z))) o = some (.dK (dropK (kvN mo) (Sum.inr z))) := upd_same
      generalize upd H11 o (.dK (dropK (kvN mo) (Sum.inr z))) = H12 at b12 h12
      rw [kvN_drop] at h12
      have hq12 := hq2.exB ho10 ho11 b12
      have e512 : Ex H5 H12 := ExB.old e511 ho5 b12
      have hL12 := e512.get hL5
      repeat walk_at "st"
      refine k_slL (.inl (.inl hL12)) fun l13 H13 hl13 e13 h13 => ?_
      obtain ⟨p13, q13, m13⟩ := cut_ints pl none (some 1)
      rw [q13] at h13
      have e513 := e512.trans e13
      repeat walk_at "st"
      have mofl := List.length_filter_le (fun n : Str × Int => decide (n.1 ≠ z)) mo
      refine ⟨q2, o, b, l13, bs, mo.filter (fun n => decide (n.1 ≠ z)), cs, xs, p13, rfl, hq12.ex e13, ⟨e13.get h12, mnd.sublist (List.Sublist.map _ List.filter_sublist)⟩, by omega, fun n hn => mNi n (List.mem_filter.mp hn).1, hC5.ex e513, hxl, hCi, fun n => ?_, hcc, nob, h13, by omega, fun H14 e14 => ?_⟩
      · rw [bmem, qmem, List.mem_filter, mmem, decide_eq_true_eq]
        constructor
        · rintro ⟨h1 | ⟨h1, h2⟩, h3⟩
          · exact ⟨.inl h1, h3⟩
          · exact ⟨.inr ⟨(hnn n).mp h1, h2⟩, h3⟩
        · rintro ⟨h1 | ⟨h1, h2⟩, h3⟩
          · exact ⟨.inl h1, h3⟩
          · exact ⟨.inr ⟨(hnn n).mpr h1, h2⟩, h3⟩
      have e514 := e513.trans e14
      have hb14 : HeapAt K H14 q2 bs cs := (hq12.ex e13).ex e14
      have hA14 := hA5.ex e514
      have hN14 := hN5.ex e514
      repeat walk_at "st"
      refine k_dinE (k := Sum.inr z) rfl (.inl hN14.1) ?_
      by_cases hzk : ∃ n, n ∈ ms ∧ n.1 = z
      · obtain ⟨n, hn, en⟩ := hzk
        have hv := kvN_some hN14.2 hn
        rw [en] at hv
        rw [hv]
        have hne : ¬ bs = ns := fun e => by
          have := (bmem n).mp (e ▸ (hnn n).mpr hn)
          exact this.2 en
        repeat walk_at "st"
        refine k_eqH Y hb14 hA14 fun H15 e15 => ?_
        rw [show (decide (bs = ns) && decide (cs = cs)) = false from by rw [decide_eq_false hne]; rfl]
        repeat walk_at "st"
        refine k_eqH Y (hb14.ex e15) (hA14.ex e15) fun H16 e16 => ?_
        rw [show (decide (bs = ns) && decide (cs = cs)) = false from by rw [decide_eq_false hne]; rfl]
        repeat walk_at "st"
        intro t17 H17 ht17 e17 h17
        repeat walk_at "st"
        intro t18 H18 ht18 e18 h18
        repeat walk_at "st"
        refine ⟨_, _, .tuple [.bool false, .bool true], rfl, .tup (.inl (.inl (e18.get h17))) (.cons (.bl _) (.cons (.bl _) .nil)), .tup (.inl (.inl h18)) (.cons (.bl _) (.cons (.bl _) .nil)), by decide, fun H19 e19 => ?_⟩
        have eF := e514.trans (e15.trans (e16.trans (e17.trans (e18.trans e19))))
        exact k _ (b5.trans (ExB.of eF)) (P5.ex eF)
      · have hv : valV (kvN ms) (Sum.inr z) = none := kvN_none fun q => by
          obtain ⟨n, hn, en⟩ := List.mem_map.mp q
          exact hzk ⟨n, hn, en⟩
        rw [hv]
        have heq : bs = ns := by
          obtain ⟨_, _, _, _, _, B⟩ := hb14
          obtain ⟨_, _, _, _, _, A1⟩ := hA14
          refine B.no.uniq A1.no fun n => ?_
          rw [bmem, qmem]
          constructor
          · rintro ⟨h1 | ⟨h1, h2⟩, h3⟩
            · rw [h1] at h3
              exact absurd rfl h3
            · exact h1
          · intro h1
            have h2 : n.1 ≠ z := fun e => hzk ⟨n, (hnn n).mp h1, e⟩
            exact ⟨.inr ⟨h1, h2⟩, h2⟩
        repeat walk_at "st"
        refine k_eqH Y hb14 hA14 fun H15 e15 => ?_
        rw [show (decide (bs = ns) && decide (cs = cs)) = true from by rw [decide_eq_true heq, decide_eq_true rfl]; rfl]
        repeat walk_at "st"
        refine k_eqH Y (hb14.ex e15) (hA14.ex e15) fun H16 e16 => ?_
        rw [show (decide (bs = ns) && decide (cs = cs)) = true from by rw [decide_eq_true heq, decide_eq_true rfl]; rfl]
        repeat walk_at "st"
        intro t17 H17 ht17 e17 h17
        repeat walk_at "st"
        intro t18 H18 ht18 e18 h18
        repeat walk_at "st"
        refine ⟨_, _, .tuple [.bool true, .bool false], rfl, .tup (.inl (.inl (e18.get h17))) (.cons (.bl _) (.cons (.bl _) .nil)), .tup (.inl (.inl h18)) (.cons (.bl _) (.cons (.bl _) .nil)), by decide, fun H19 e19 => ?_⟩
        have eF := e514.trans (e15.trans (e16.trans (e17.trans (e18.trans e19))))
        exact k _ (b5.trans (ExB.of eF)) (P5.ex eF)
    obtain ⟨tr2, hrest, hgo2⟩ := rest2
    have rest1 : ∃ t, PSs (cxOf CX0 P w K mg base ["pool", "heap", "names", "cells", "places", "turn", "fresh", "name", "pick", "value", "more", "new", "back", "there"] "_law_with" (defScope s_l_with) f cdv A outer s H E).nox ((defBody s_l_with).drop 5) t ∧ ∀ (z : Str) (v : Int) (H5 : Hp) (v6 v8 : Option V), ExB p H H5 → Pool H5 p → NmIn (z, v) →
        t { nx := fun _ H' => Q .non H', rt := Q } [some (.ref p), some (.ref h), some (.ref a), some (.ref b), some (.ref l), some (.int turn), v6, some (.str z), v8, some (.int v), none, none, none, none] H5 := by
      refine ⟨_, (pss_cons (ps_set (i := 10) sc_l_with.nd rfl (Or.inl rfl) (pe_callTy cr_dictOf rfl T.f_dict (by decide +kernel) (pa_cons (pv 2) pa_nil)))
  (pss_cons (ps_dput hu (pv 10) (pv 7) (pv 9) rfl)
  (pss_cons (ps_set (i := 11) sc_l_with.nd rfl (Or.inl rfl) (by exact pe_met (pv 1) T.cls_Heap (me_Heap_with_name Y) hr (by decide) passF (pa_cons (pv 7) (pa_cons (pv 9) pa_nil))))
  (pss_cons (ps_if (pt_cmpR op_eq (pv 5) pe_int (nomark _)) (pss_one (ps_set (i := 11) sc_l_with.nd rfl (Or.inl rfl) (by exact pe_metK (pv 1) T.cls_Heap (mk_Heap_with_name Y) hr (by decide) passF (pa_cons (pv 7) pa_nil) (pk_cons (pv 9) pk_nil)))) pss_nil)
  hrest)))), fun z v H5 v6 v8 b5 P5 hz => ?_⟩
      dsimp only [cxOf, Cx.nox]
      have hA5 := hA.exP hP b5
      have hN5 := hN.exP hP b5
      have hnl : ns.length ≤ 8 := by
        have hno : NmOk ns := by obtain ⟨_, _, _, _, _, q⟩ := hA; exact q.no
        have nd : ns.Nodup := List.Pairwise.of_map (·.1) (fun a b h e => h (by rw [e])) hno.nd
        have := nodup_leG nd fun n hn => (hnn n).mp hn
        omega
      repeat walk_at "st"
      refine k_dictOf (.inl hN5.1) fun o H6 ho e6 h6 => ?_
      repeat walk_at "st"
      obtain ⟨mo, emo, mnd, mmem, mlen, mNi⟩ := put_names hN5.2 hNi hz
      refine k_dputE (k := Sum.inr z) rfl h6 (by unfold kvN; rw [List.length_map, sizeLine_eq]; omega) fun H7 b7 h7 => ?_
      rw [emo] at h7
      have e57 : Ex H5 H7 := ExB.old e6 ho b7
      have hA7 := hA5.ex e57
      obtain ⟨dx, tn, tc, d, kvs, hA8⟩ := id hA7
      repeat walk_at "st"
      refine ⟨h, dx, _, rfl, hA8.ins, hf_with _ _ _, ?_⟩
      repeat walk_at "st"
      refine ⟨h, z, v, ns, cs, rfl, hA7, hz.2.1, by omega, fun _ H8 q ms' e8 hq qmem qlen => ?_, fun hb => absurd (hz.1.symm.trans hb) (by decide), fun _ hn => absurd hz hn⟩
      repeat walk_at "st"
      by_cases ht : turn = 1
      · rw [decide_eq_true (show V.int turn = V.int 1 by rw [ht])]
        have hA9 := hA7.ex e8
        obtain ⟨dx9, tn9, tc9, d9, kvs9, hA10⟩ := id hA9
        repeat walk_at "st"
        refine k_metK ?_
        repeat walk_at "st"
        refine ⟨h, dx9, _, rfl, hA10.ins, hf_with _ _ _, ?_⟩
        repeat walk_at "st"
        refine ⟨rfl, rfl, h, z, v, ns, cs, rfl, hA9, hz.2.1, by omega, fun _ H9 q2 ms2 e9 hq2 qmem2 qlen2 => ?_, fun hb => absurd (hz.1.symm.trans hb) (by decide), fun _ hn => absurd hz hn⟩
        repeat walk_at "st"
        exact hgo2 z v o q2 ms2 mo H5 H7 H9 _ _ _ b5 P5 (e57.trans (e8.trans e9)) hz h7 ho (e8.trans e9) mnd mmem (by omega) mNi (hq2.older e8) qmem2 (by omega)
      · rw [decide_eq_false (show ¬ V.int turn = V.int 1 from fun q => ht (V.int.inj q))]
        repeat walk_at "st"
        exact hgo2 z v o q ms' mo H5 H7 H8 _ _ _ b5 P5 (e57.trans e8) hz h7 ho e8 mnd mmem (by omega) mNi hq qmem (by omega)
    obtain ⟨tr1, hrest, hgo1⟩ := rest1
    refine ⟨_, (pss_cons (ps_set (i := 6) sc_l_with.nd rfl (Or.inl rfl) (pe_op op_cat (by exact pe_cal (c_l_names T) hr (by decide) rfl pass0 (pa_cons (pv 0) (pa_cons pe_int pa_nil))) (pe_callB (call_sortedD rfl) rfl T.f_sorted (by decide +kernel) (pa_cons (pv 2) pa_nil))))
  (pss_cons (ps_set (i := 7) sc_l_with.nd rfl (Or.inl rfl) (pe_ix (ix_listK (K := K) rfl) (pv 6) (pe_op o_mod (pe_callTy cr_int rfl T.f_int (by decide +kernel) (pa_cons (pe_op o_add (pe_op o_add pe_int (pe_op o_mul pe_int (pv 5))) (by exact pe_cal (c_l_draw T) hr (by decide) rfl pass0 (pa_cons (pv 0) (pa_cons pe_int pa_nil)))) pa_nil)) (pe_callB cr_len rfl T.f_len (by decide +kernel) (pa_cons (pv 6) pa_nil))) (fun _ _ => rfl)))
  (pss_cons (ps_set (i := 8) sc_l_with.nd rfl (Or.inl rfl) (by exact pe_cal (c_l_draw T) hr (by decide) rfl pass0 (pa_cons (pv 0) (pa_cons pe_int pa_nil))))
  (pss_cons (ps_set (i := 9) sc_l_with.nd rfl (Or.inl rfl) (pe_ix (ix_listK (K := K) rfl) (pv 4) (pe_op o_mod (pe_callTy cr_int rfl T.f_int (by decide +kernel) (pa_cons (pe_op o_add (pe_op o_add pe_int (pv 5)) (by exact pe_cal (c_l_large T) hr (by decide) rfl pass0 (pa_cons (pv 0) (pa_cons pe_int pa_nil)))) pa_nil)) (pe_callB cr_len rfl T.f_len (by decide +kernel) (pa_cons (pv 4) pa_nil))) (fun _ _ => rfl)))
  (pss_cons (ps_if (pt_cmpR op_eq (pv 8) pe_int (nomark _)) (pss_cons (ps_set (i := 9) sc_l_with.nd rfl (Or.inl rfl) (pe_op o_add (by exact pe_cal (c_l_large T) hr (by decide) rfl pass0 (pa_cons (pv 0) (pa_cons pe_int pa_nil))) (pe_op o_mul pe_int (by exact pe_cal (c_l_draw T) hr (by decide) rfl pass0 (pa_cons (pv 0) (pa_cons pe_int pa_nil))))))
  (pss_one (ps_set (i := 9) sc_l_with.nd rfl (Or.inl rfl) (pe_op o_mod (pe_callTy cr_int rfl T.f_int (by decide +kernel) (pa_cons (pv 9) pa_nil)) pe_int)))) pss_nil)
  hrest))))), ?_⟩
    try dsimp only [cxOf, Cx.nox]
    repeat walk_at "st"
    refine ⟨p, 4, rfl, hP, by decide, by decide, fun H1 l1 zs b1 P1 hl1 h1 znd zg zl zne => ?_⟩
    have hN1 := hN.exP hP b1
    repeat walk_at "st"
    refine ⟨a, kvN ms, ms.map (·.1), rfl, .inl hN1.1, kvN_keys ms, by rw [List.length_map]; omega, fun ys sl pm so hsl => ?_⟩
    have e2 : Ex H1 (upd H1 sl (.lst (ys.map V.str))) := Ex.new hsl
    have h2 : upd H1 sl (.lst (ys.map V.str)) sl = some (.lst (ys.map V.str)) := upd_same
    generalize upd H1 sl (.lst (ys.map V.str)) = H2 at e2 h2
    have yl : ys.length ≤ 8 := by
      have := pm.length_eq
      rw [List.length_map] at this
      omega
    have zl4 : zs.length ≤ 4 := zl
    refine k_cat (e2.get h1) h2 (by rw [List.length_map, List.length_map, sizeLine_eq]; omega) fun fl H3 hfl e3 h3 => ?_
    rw [← List.map_append] at h3
    have P3 : Pool H3 p := P1.ex (e2.trans e3)
    have nfl : fl ≠ p := npool (P1.ex e2) hfl
    have good : ∀ z ∈ zs ++ ys, GoodN z := fun z hz => by
      rcases List.mem_append.mp hz with q | q
      · exact zg z q
      · obtain ⟨n, hn, rfl⟩ := List.mem_map.mp (pm.mem_iff.mp q)
        have := hNi n hn
        exact ⟨this.1, this.2.1, this.2.2.2.2⟩
    have fpos : 0 < (zs ++ ys).length := by
      rw [List.length_append]
      have := List.length_pos_iff.mpr (zne (by decide))
      omega
    repeat walk_at "st"
    refine ⟨p, 12, rfl, P3, by decide, fun r1 H4 r10 r11 P4 b4 => ?_⟩
    have h4 := b4 _ _ nfl h3
    have fne : (((zs ++ ys).map V.str).length : Int) ≠ 0 := by rw [List.length_map]; omega
    repeat walk_at "st"
    obtain ⟨z, hzm, hza⟩ := pickS (zs ++ ys) (r := (2 + 3 * turn + r1) % (((zs ++ ys).map V.str).length : Int)) (Int.emod_nonneg _ fne) (by
      have := Int.emod_lt_of_pos (2 + 3 * turn + r1) (b := (((zs ++ ys).map V.str).length : Int)) (by omega)
      rw [List.length_map] at this ⊢
      exact this)
    refine k_ixL (.inl (.inl h4)) hza ?_
    repeat walk_at "st"
    refine ⟨p, 4, rfl, P4, by decide, fun pk H5 pk0 pk1 P5 b5 => ?_⟩
    repeat walk_at "st"
    refine ⟨p, 63, rfl, P5, by decide, fun r6 H6 r60 r61 P6 b6 => ?_⟩
    have b06 : ExB p H H6 := b1.trans ((ExB.of (e2.trans e3)).trans (b4.trans (b5.trans b6)))
    have hL6 := b06 _ _ hlp hL
    have pne : ((pl.map V.int).length : Int) ≠ 0 := by rw [List.length_map]; omega
    repeat walk_at "st"
    obtain ⟨v, hvm, hva⟩ := pick pl (r := (1 + turn + r6) % ((pl.map V.int).length : Int)) (Int.emod_nonneg _ pne) (by
      have := Int.emod_lt_of_pos (1 + turn + r6) (b := ((pl.map V.int).length : Int)) (by omega)
      rw [List.length_map] at this ⊢
      exact this)
    refine k_ixL (.inl (.inl hL6)) hva ?_
    have gz := good z hzm
    have hv := hpr v hvm
    repeat walk_at "st"
    by_cases hp3 : pk = 3
    · rw [decide_eq_true (show V.int pk = V.int 3 by rw [hp3])]
      repeat walk_at "st"
      refine ⟨p, 3600, rfl, P6, by decide, fun r7 H7 r70 r71 P7 b7 => ?_⟩
      repeat walk_at "st"
      refine ⟨p, 3, rfl, P7, by decide, fun r8 H8 r80 r81 P8 b8 => ?_⟩
      repeat walk_at "st"
      exact hgo1 z _ H8 _ _ (b06.trans (b7.trans b8)) P8 ⟨gz.1, gz.2.1, Int.emod_nonneg _ (by decide), by have := Int.emod_lt_of_pos (r7 + 3600 * r8) (show (0 : Int) < 10000 by decide); show (r7 + 3600 * r8) % 10000 ≤ 9999; omega, gz.2.2⟩
    · rw [decide_eq_false (show ¬ V.int pk = V.int 3 from fun q => hp3 (V.int.inj q))]
      repeat walk_at "st"
      exact hgo1 z v H6 _ _ b06 P6 ⟨gz.1, gz.2.1, hv.1, hv.2, gz.2.2⟩
end


/-! ### _law_sort, _law_same while an exception is handled -/
theorem k_callQ {sp : Addr × Obj → Sp} {p : Addr × Obj} {t : TA} {σ : L2.St} {H : Hp} {Q : VK} (h : t σ H fun vs H1 => sp p vs H1 Q fun _ _ _ => False) : tCallQ sp p t σ H Q := h
theorem k_zipTH {K : PySem.W.Frag} {ta : TA} {σ : L2.St} {H : Hp} {R : It → Hp → Prop} (h : ta σ H fun vs H1 => ∃ a b xs ys, vs = [.ref a, .ref b] ∧ SqT K H1 a xs ∧ SqT K H1 b ys ∧ R (RZ.ItzT K a b) H1) : iZipTH K ta σ H R := h
theorem noLs_mem : ∀ {ds : List PyData}, noLs ds = true → ∀ d ∈ ds, noL d = true
  | d :: ds, h, x, hx => by
    have h2 : noL d = true ∧ noLs ds = true := by simpa [noLs] using h
    rcases List.mem_cons.mp hx with rfl | hx
    · exact h2.1
    · exact noLs_mem h2.2 x hx
def spSortQ (K : PySem.W.Frag) (_ : Addr × Obj) : Sp := fun vs H Q _ => ∃ x n, vs = [x] ∧ Sort1 K H x n ∧ Q (.int n) H
def spSameQ (K : PySem.W.Frag) (_ : Addr × Obj) : Sp := fun vs H Q _ => ∃ x y d, vs = [x, y] ∧ Dp K H x d ∧ Dp K H y d ∧ noL d = true ∧ wt d ≤ 9000 ∧ ∀ H', Ex H H' → Q (.bl true) H'
section
variable {P : Program} {w : World} {K : PySem.W.Frag} {mg : Str → Option Value} {base : Heap}
theorem q_l_sort (T : Tx w K mg) : CalQ P w K mg base 1 "_law_sort" ["thing"] (spSortQ K) := by
  refine calQ_mk T.D_l_sort T.m__law_sort sc_l_sort (fun _ _ _ _ _ _ us hl => match us, hl with | [_], _ => rfl) (fun p vs H Q E h => ?_) (fun f cdv A outer s H vs Q E p hot hr h => ?_)
  · obtain ⟨x, n, rfl, _⟩ := h
    rfl
  · obtain ⟨x, n, rfl, hx, k⟩ := h
    refine ⟨_, ((pss_cons (ps_if (pt_val (pe_callB call_isi rfl T.f_isinstance (by decide +kernel) (pa_cons (pv 0) (pa_cons (pe_ty (n := "bool") rfl T.f_bool (by decide +kernel)) pa_nil)))) (pss_one (ps_ret pe_int)) pss_nil)
  (pss_cons (ps_if (pt_val (pe_callB call_isi rfl T.f_isinstance (by decide +kernel) (pa_cons (pv 0) (pa_cons (pe_ty (n := "int") rfl T.f_int (by decide +kernel)) pa_nil)))) (pss_one (ps_ret pe_int)) pss_nil)
  (pss_cons (ps_if (pt_val (pe_callB call_isi rfl T.f_isinstance (by decide +kernel) (pa_cons (pv 0) (pa_cons (pe_ty (n := "str") rfl T.f_str (by decide +kernel)) pa_nil)))) (pss_one (ps_ret pe_int)) pss_nil)
  (pss_cons (ps_if (pt_val (pe_callB call_isi rfl T.f_isinstance (by decide +kernel) (pa_cons (pv 0) (pa_cons (pe_ty (n := "tuple") rfl T.f_tuple (by decide +kernel)) pa_nil)))) (pss_one (ps_ret pe_int)) pss_nil)
  (pss_cons (ps_if (pt_val (pe_callB call_isi rfl T.f_isinstance (by decide +kernel) (pa_cons (pv 0) (pa_cons (pe_ty (n := "list") rfl T.f_list (by decide +kernel)) pa_nil)))) (pss_one (ps_ret pe_int)) pss_nil)
  (pss_one (ps_ret (pe_ifExp (pt_cmp (pc_isN (pv 0))) pe_int pe_int))))))))), ?_⟩
    dsimp only [L2H.cxH, cxOf]
    cases hx with
    | bl b =>
      repeat walk_at "st"
      refine k_isi (.base (.bl b)) (b := true) (by decide +kernel) ?_
      repeat walk_at "st"
      exact k
    | int i =>
      repeat walk_at "st"
      refine k_isi (.base (.int i)) (b := false) (by decide +kernel) ?_
      repeat walk_at "st"
      refine k_isi (.base (.int i)) (b := true) (by decide +kernel) ?_
      repeat walk_at "st"
      exact k
    | str z =>
      repeat walk_at "st"
      refine k_isi (.base (.str z)) (b := false) (by decide +kernel) ?_
      repeat walk_at "st"
      refine k_isi (.base (.str z)) (b := false) (by decide +kernel) ?_
      repeat walk_at "st"
      refine k_isi (.base (.str z)) (b := true) (by decide +kernel) ?_
      repeat walk_at "st"
      exact k
    | @tup a xs hs =>
      have ty := tyX_T hs
      repeat walk_at "st"
      refine k_isi ty (b := false) (by decide +kernel) ?_
      repeat walk_at "st"
      refine k_isi ty (b := false) (by decide +kernel) ?_
      repeat walk_at "st"
      refine k_isi ty (b := false) (by decide +kernel) ?_
      repeat walk_at "st"
      refine k_isi ty (b := true) (by decide +kernel) ?_
      repeat walk_at "st"
      exact k
    | @lst a xs hs =>
      have ty := tyX_L hs
      repeat walk_at "st"
      refine k_isi ty (b := false) (by decide +kernel) ?_
      repeat walk_at "st"
      refine k_isi ty (b := false) (by decide +kernel) ?_
      repeat walk_at "st"
      refine k_isi ty (b := false) (by decide +kernel) ?_
      repeat walk_at "st"
      refine k_isi ty (b := false) (by decide +kernel) ?_
      repeat walk_at "st"
      refine k_isi ty (b := true) (by decide +kernel) ?_
      repeat walk_at "st"
      exact k
    | non =>
      have ty : TyX K H .non (.type "NoneType") := .base .non
      repeat walk_at "st"
      refine k_isi ty (b := false) (by decide +kernel) ?_
      repeat walk_at "st"
      refine k_isi ty (b := false) (by decide +kernel) ?_
      repeat walk_at "st"
      refine k_isi ty (b := false) (by decide +kernel) ?_
      repeat walk_at "st"
      refine k_isi ty (b := false) (by decide +kernel) ?_
      repeat walk_at "st"
      refine k_isi ty (b := false) (by decide +kernel) ?_
      repeat walk_at "st"
      exact k
def SameIQ (K : PySem.W.Frag) (H : Hp) (told due : V) (l : Addr) (bound : Nat) (σ : L2.St) (H' : Hp) : Prop := ∃ (qs : List Wait) (v3 v4 v5 v6 v7 v8 : Option V), σ = [some told, some due, some (.ref l), v3, v4, v5, v6, v7, v8] ∧
  H l = none ∧ Ex H H' ∧ H' l = some (.lst (qs.map fun q => V.ref q.p)) ∧ (∀ q ∈ qs, WaitOk K H H' q ∧ noL q.d = true) ∧ wsum qs ≤ bound
def SameZQ (K : PySem.W.Frag) (H : Hp) (told due : V) (l : Addr) (init : List Wait) (ds : List PyData) (j : Nat) (v3 v4 v5 v6 : Option V) (σ : L2.St) (H' : Hp) : Prop := ∃ (qs : List Wait) (v7 v8 : Option V), σ = [some told, some due, some (.ref l), v3, v4, v5, v6, v7, v8] ∧
  Ex H H' ∧ H' l = some (.lst ((init ++ qs).map fun q => V.ref q.p)) ∧ (∀ q ∈ init ++ qs, WaitOk K H H' q ∧ noL q.d = true) ∧ wsum qs = wts (ds.take j)
theorem q_l_same (T : Tx w K mg) : CalQ P w K mg base 2 "_law_same" ["told", "due"] (spSameQ K) := by
  refine calQ_mk T.D_l_same T.m__law_same sc_l_same (fun _ _ _ _ _ _ us hl => match us, hl with | [_, _], _ => rfl) (fun p vs H Q E h => ?_) (fun f cdv A outer s H vs Q E p0 hot hr h => ?_)
  · obtain ⟨x, y, d, rfl, _⟩ := h
    rfl
  · obtain ⟨x, y, d, rfl, hx, hy, hnl, hd, k⟩ := h
    have hc : L2H.HotC (L2H.cxH CX0 P w K mg base ["told", "due", "pairs", "k", "one", "two", "kind", "x", "y"] "_law_same" (defScope s_l_same) f cdv A outer s H E p0) := ⟨p0, hot, List.mem_singleton.mpr rfl⟩
    refine ⟨_, (pss_cons (ps_set (i := 2) sc_l_same.nd rfl (Or.inl rfl) (pe_lst (pa_cons (pe_tup (pa_cons (pv 0) (pa_cons (pv 1) pa_nil))) pa_nil)))
      (pss_cons (L2H.ps_forH (passes_of rfl) hc (L2H.pi_range1H rfl T.f_range (pa_cons pe_int pa_nil)) (pg_name (i := 3) sc_l_same.nd rfl (Or.inl rfl)) (pss_cons (ps_if (pt_cmpR op_eq (pe_callB cr_len rfl T.f_len (by decide +kernel) (pa_cons (pv 2) pa_nil)) pe_int (nomark _)) (pss_one (ps_ret pe_bl)) pss_nil)
      (pss_cons (ps_asg (pe_bm0 PySem.F.plainAttrs_list PySem.F.slot_list_pop PySem.F.type_list_pop mt_pop (pv 2)) (pg_tupH (n := 2) hc (pgs_cons (pg_name (i := 4) sc_l_same.nd rfl (Or.inl rfl)) (pgs_cons (pg_name (i := 5) sc_l_same.nd rfl (Or.inl rfl)) pgs_nil))))
      (pss_cons (ps_set (i := 6) sc_l_same.nd rfl (Or.inl rfl) (by exact pe_calQ (q_l_sort T) hr (by decide) hot (List.mem_singleton.mpr rfl) rfl (pa_cons (pv 5) pa_nil)))
      (pss_cons (ps_if (pw_or (pt_cmpR op_eq (pv 6) pe_int (nomark _)) (pw_or1 (pt_cmpR op_ne (by exact pe_calQ (q_l_sort T) hr (by decide) hot (List.mem_singleton.mpr rfl) rfl (pa_cons (pv 4) pa_nil)) (pv 6) (nomark _)))).pt (pss_one (ps_ret pe_bl)) pss_nil)
      (pss_one (ps_if (pt_cmpR o_ge (pv 6) pe_int (nomark _)) (pss_cons (ps_if (pt_cmpR op_ne (pe_callB cr_len rfl T.f_len (by decide +kernel) (pa_cons (pv 4) pa_nil)) (pe_callB cr_len rfl T.f_len (by decide +kernel) (pa_cons (pv 5) pa_nil)) (nomark _)) (pss_one (ps_ret pe_bl)) pss_nil)
        (pss_one (L2H.ps_forH (passes_of rfl) hc (pi_zipTH rfl T.f_zip (pa_cons (pv 4) (pa_cons (pv 5) pa_nil))) (pg_tupH (n := 2) hc (pgs_cons (pg_name (i := 7) sc_l_same.nd rfl (Or.inl rfl)) (pgs_cons (pg_name (i := 8) sc_l_same.nd rfl (Or.inl rfl)) pgs_nil))) (pss_one (ps_expr (pe_bm PySem.F.plainAttrs_list PySem.F.slot_list_append PySem.F.type_list_append mt_append (pv 2) (pa_cons (pe_tup (pa_cons (pv 7) (pa_cons (pv 8) pa_nil))) pa_nil))))))) (pss_one (ps_if (pt_cmpR op_ne (pv 4) (pv 5) (nomark _)) (pss_one (ps_ret pe_bl)) pss_nil)))))))))
      (pss_one (ps_ret pe_bl)))), ?_⟩
    dsimp only [L2H.cxH, cxOf]
    repeat walk_at "st"
    intro p H1 hp e1 h1
    repeat walk_at "st"
    intro l H2 hl e2 h2
    repeat walk_at "st"
    have e02 : Ex H H2 := e1.trans e2
    refine for_range (lo := 0) (fun i σ' H' => SameIQ K H x y l (9000 - i) σ' H' ∧ i ≤ 9000) ?_ ?_ ?_
    · exact ⟨⟨[⟨p, x, y, d⟩], none, none, none, none, none, none, rfl, e1.none hl, e02, h2, fun q hq => by
        rw [List.mem_singleton.mp hq]
        exact ⟨⟨e2.get h1, hx, hy⟩, hnl⟩, by simpa [wsum, wts] using hd⟩, Nat.zero_le _⟩
    · rintro i σ' H' hi ⟨⟨qs, v3, v4, v5, v6, v7, v8, rfl, n0, e, hL, hq, hw⟩, hi9⟩
      repeat walk_at "st"
      split
      · repeat walk_at "st"
        exact k _ e
      · rename_i hne
        have hqs : qs ≠ [] := fun z => hne (by rw [z]; rfl)
        obtain ⟨init, q, rfl⟩ : ∃ init q, qs = init ++ [q] := ⟨qs.dropLast, qs.getLast hqs, (List.dropLast_concat_getLast hqs).symm⟩
        have hi1 : wsum (init ++ [q]) = wsum init + wt q.d := by
          rw [wsum_app]
          simp [wsum, wts]
        have hpos := wt_pos q.d
        have hlt : i + 1 ≤ 9000 := by
          have := wsum_len (init ++ [q])
          rw [List.length_append, List.length_singleton] at this
          omega
        obtain ⟨⟨hqp, hqx, hqy⟩, hqn⟩ := hq q (by simp)
        repeat walk_at "st"
        refine k_pop (v := .ref q.p) hL (by simp) ?_
        intro H3 b3 h3
        have nql : q.p ≠ l := ne_of hqp hL (by intro z; cases z)
        have hqp3 : H3 q.p = some (.tup [q.x, q.y]) := b3 _ _ nql hqp
        have e3 : Ex H H3 := ExB.old e n0 b3
        have hr3 : ∀ r ∈ init, WaitOk K H H3 r ∧ noL r.d = true := fun r hr => by
          obtain ⟨⟨a1, a2, a3⟩, a4⟩ := hq r (by simp [hr])
          exact ⟨⟨b3 _ _ (ne_of a1 hL (by intro z; cases z)) a1, a2, a3⟩, a4⟩
        have h3' : H3 l = some (.lst (init.map fun q => V.ref q.p)) := by
          rw [h3]
          simp
        repeat walk_at "st"
        refine k_callQ ?_
        repeat walk_at "st"
        obtain ⟨n, s1, s6, sy, sf, sd⟩ := sort_of (Dp_ex e3 _ _ hqx)
        refine ⟨q.y, n, rfl, sy (Dp_ex e3 _ _ hqy), ?_⟩
        repeat walk_at "st"
        rw [show decide (V.int n = V.int 6) = false from decide_eq_false fun z => s6 (V.int.inj z)]
        refine iteF ?_
        repeat walk_at "st"
        refine k_callQ ?_
        repeat walk_at "st"
        refine ⟨q.x, n, rfl, s1, ?_⟩
        repeat walk_at "st"
        rw [decide_eq_true (rfl : V.int n = V.int n)]
        refine iteF ?_
        repeat walk_at "st"
        split
        · rename_i h4
          have h4 : (4 : Int) ≤ n := of_decide_eq_true h4
          -- the items' pairs wait
          have inner : ∀ (xs ys : List V) (ds : List PyData) (ax ay : Addr) (D : Ends), DpAll K H xs ds → DpAll K H ys ds → (∀ d ∈ ds, noL d = true) → 1 + wts ds = wt q.d →
              ∀ (j : Nat) (x1 y1 : V) (T1 : Addr) (σ5 : L2.St) (H5 : Hp), xs[j]? = some x1 → ys[j]? = some y1 → SameZQ K H x y l init ds j (some (.int (0 + (i : Int)))) (some q.x) (some q.y) (some (.int n)) σ5 H5 → H5 T1 = none →
              gTup K 2 (gCons (gName 7) (gCons (gName 8) gNil)) (.ref T1) σ5 (upd H5 T1 (.tup [x1, y1])) fun σ2 H2 =>
                tDrop (tBM K "list" rAppend (tVar 2) (tCons (tTup (tCons (tVar 7) (tCons (tVar 8) tNil))) tNil)) { D with nx := SameZQ K H x y l init ds (j + 1) (some (.int (0 + (i : Int)))) (some q.x) (some q.y) (some (.int n)), ct := SameZQ K H x y l init ds (j + 1) (some (.int (0 + (i : Int)))) (some q.x) (some q.y) (some (.int n)), bk := D.nx } σ2 H2 := by
            rintro xs ys ds ax ay D hxs hys hdn hds j x1 y1 T1 σ5 H5 hj1 hj2 ⟨qs', v7, v8, rfl, e5, h5, hr5, hw5⟩ hT1
            obtain ⟨d1, hd1, dx1⟩ := L3.DpAll.get hxs hj1
            obtain ⟨d2, hd2, dy1⟩ := L3.DpAll.get hys hj2
            rw [hd1] at hd2
            cases hd2
            have eT : Ex H5 (upd H5 T1 (.tup [x1, y1])) := Ex.new hT1
            have hT : upd H5 T1 (.tup [x1, y1]) T1 = some (.tup [x1, y1]) := upd_same
            generalize upd H5 T1 (.tup [x1, y1]) = H6 at eT hT
            have hl5 : (init ++ qs').length ≤ 20000 := by
              have z1 := wsum_len (init ++ qs')
              rw [wsum_app, hw5] at z1
              have z2 : wts (ds.take j) ≤ wts ds := by
                have z3 := wts_app (ds.take j) (ds.drop j)
                rw [List.take_append_drop] at z3
                omega
              omega
            rw [List.length_append] at hl5
            have h6 := eT.get h5
            have n0' := n0
            refine k_gTup (Or.inl (Or.inl hT)) rfl ?_
            repeat walk_at "st"
            intro p7 H7 hp7 e7 h7
            have h67 := e7.get h6
            repeat walk_at "st"
            intro H8 b8 h8
            repeat walk_at "st"
            refine ⟨qs' ++ [⟨p7, x1, y1, d1⟩], _, _, rfl, ExB.old ((e5.trans eT).trans e7) n0 b8, ?_, ?_, ?_⟩
            · rw [h8]
              simp
            · intro r hr
              rw [← List.append_assoc] at hr
              rcases List.mem_append.mp hr with hr | hr
              · obtain ⟨⟨a1, a2, a3⟩, a4⟩ := hr5 r hr
                exact ⟨⟨b8 _ _ (ne_of a1 h5 (by intro z; cases z)) (e7.get (eT.get a1)), a2, a3⟩, a4⟩
              · rw [List.mem_singleton.mp hr]
                exact ⟨⟨b8 _ _ (ne_of h7 h67 (by intro z; cases z)) h7, dx1, dy1⟩, hdn d1 (List.mem_of_getElem? hd1)⟩
            · rw [wsum_app, hw5, List.take_succ, hd1, wts_app]
              simp [wsum, wts]
          have fin : ∀ (ds : List PyData), 1 + wts ds = wt q.d → ∀ (σ5 : L2.St) (H5 : Hp), SameZQ K H x y l init ds ds.length (some (.int (0 + (i : Int)))) (some q.x) (some q.y) (some (.int n)) σ5 H5 → SameIQ K H x y l (9000 - (i + 1)) σ5 H5 ∧ i + 1 ≤ 9000 := by
            rintro ds hds σ5 H5 ⟨qs', v7, v8, rfl, e5, h5, hr5, hw5⟩
            refine ⟨⟨init ++ qs', _, _, _, _, _, _, rfl, n0, e5, h5, hr5, ?_⟩, hlt⟩
            rw [wsum_app, hw5, List.take_length]
            omega
          rcases q with ⟨qp, qx, qy, qd⟩
          dsimp only at *
          rcases sd h4 with ⟨ds, rfl⟩ | ⟨ds, rfl⟩
          · simp [noL] at hqn
          · cases hqx with
            | @tup ax xs _ sx dx =>
              cases hqy with
              | @tup ay ys _ sy dy =>
                have lx := L3.DpAll.length dx
                have ly := L3.DpAll.length dy
                have sx3 := e3.sqT sx
                have sy3 := e3.sqT sy
                repeat walk_at "st"
                rw [lx, ly, decide_eq_true rfl]
                refine iteF ?_
                repeat walk_at "st"
                refine k_zipTH ?_
                repeat walk_at "st"
                have hdn : ∀ d ∈ ds, noL d = true := noLs_mem (by simpa [noL] using hqn)
                refine ⟨ax, ay, xs, ys, rfl, sx3, sy3, RZ.for_zipT (xs := xs) (ys := ys) (by rw [lx, ly]) (SameZQ K H x y l init ds · (some (.int (0 + (i : Int)))) (some (.ref ax)) (some (.ref ay)) (some (.int n))) ⟨[], _, _, rfl, e3, by simpa using h3', by simpa using hr3, by simp [wsum, wts]⟩
                  (fun j σ5 H5 ⟨_, _, _, _, e5, _⟩ => ⟨e5.sqT sx, e5.sqT sy⟩) (fun j x1 y1 T1 σ5 H5 g1 g2 p hT => inner xs ys ds ax ay _ dx dy hdn (by rw [wt]) j x1 y1 T1 σ5 H5 g1 g2 p hT) (by rw [lx]; exact fin ds (by rw [wt]))⟩
        · rename_i h4
          have h4 : ¬ (4 : Int) ≤ n := fun z => h4 (decide_eq_true z)
          obtain ⟨eyx, sc⟩ := sf (by omega) (Dp_ex e3 _ _ hqy)
          repeat walk_at "st"
          rw [eyx]
          refine k_ne sc ?_
          repeat walk_at "st"
          rw [decide_eq_true rfl]
          refine iteF ?_
          repeat walk_at "st"
          exact ⟨⟨init, _, _, _, _, _, _, rfl, n0, e3, h3', hr3, by omega⟩, hlt⟩
    · rintro σ' H' ⟨_, h⟩
      exact absurd h (by decide)
end


/-! ### the exceptions, as a suite asks them -/
structure ExF (K : PySem.W.Frag) (C : Addr) (a b c : Bool) : Prop where
  ec : L2.ExcC K C
  x : L2.XfC K C
  nm : PySem.W.findIn K (.ref C) "name" = some none
  pt : PySem.W.findIn K (.ref C) "part" = some none
  att : PySem.W.findIn K (.ref C) "at" = some none
  wy : PySem.W.findIn K (.ref C) "why" = some none
  val : PySem.W.kitOne K (.ref C) (.type "ValueError") = some true
  no : PySem.W.kitAny K (.ref C) [.ref (He.ga K "Lost"), .ref (He.ga K "NameTaken"), .ref (He.ga K "OtherNames")] = some false
  bn : PySem.W.kitOne K (.ref C) (.ref (He.ga K "BadName")) = some a
  bh : PySem.W.kitOne K (.ref C) (.ref (He.ga K "BadHeap")) = some b
  nn : PySem.W.kitOne K (.ref C) (.ref (He.ga K "NoName")) = some c
  hm : PySem.W.exmOne K (.ref C) (.ref (He.ga K "HeapError")) = some true
def exfB (K : PySem.W.Frag) (C : Addr) (a b c : Bool) : Bool := decide (PySem.W.findIn K (.ref C) "__getattribute__" = some (some (.builtin "BaseException.__getattribute__"))) && (decide (PySem.W.findIn K (.ref C) "__getattr__" = some none) && (decide (PySem.W.subIn K (.ref C) (.type "BaseException") = some true) && (PySem.W.hasDictIn K C && (decide (PySem.W.findIn K (.ref C) "__class__" = some (some (.builtin "object.__class__"))) && (decide (PySem.W.specialIn K (.builtin "object.__class__") "__get__" = some (some (.builtin "getset_descriptor.__get__"))) && (decide (PySem.W.takesIn K (.builtin "object.__class__") = some true) && (decide (PySem.W.mroIn K C (.type "object") = some true) && (decide (PySem.W.findIn K (.ref C) "name" = some none) && (decide (PySem.W.findIn K (.ref C) "part" = some none) && (decide (PySem.W.findIn K (.ref C) "at" = some none) && (decide (PySem.W.findIn K (.ref C) "why" = some none) && (decide (PySem.W.kitOne K (.ref C) (.type "ValueError") = some true) && (decide (PySem.W.kitAny K (.ref C) [.ref (He.ga K "Lost"), .ref (He.ga K "NameTaken"), .ref (He.ga K "OtherNames")] = some false) && (decide (PySem.W.kitOne K (.ref C) (.ref (He.ga K "BadName")) = some a) && (decide (PySem.W.kitOne K (.ref C) (.ref (He.ga K "BadHeap")) = some b) && (decide (PySem.W.kitOne K (.ref C) (.ref (He.ga K "NoName")) = some c) && (decide (PySem.W.exmOne K (.ref C) (.ref (He.ga K "HeapError")) = some true))))))))))))))))))
theorem exfB_ok {K : PySem.W.Frag} {C : Addr} {a b c : Bool} (h : exfB K C a b c = true) : ExF K C a b c := by
  unfold exfB at h
  obtain ⟨h1, h⟩ := He.ba h
  obtain ⟨h2, h⟩ := He.ba h
  obtain ⟨h3, h⟩ := He.ba h
  obtain ⟨h4, h⟩ := He.ba h
  obtain ⟨h5, h⟩ := He.ba h
  obtain ⟨h6, h⟩ := He.ba h
  obtain ⟨h7, h⟩ := He.ba h
  obtain ⟨h8, h⟩ := He.ba h
  obtain ⟨h9, h⟩ := He.ba h
  obtain ⟨h10, h⟩ := He.ba h
  obtain ⟨h11, h⟩ := He.ba h
  obtain ⟨h12, h⟩ := He.ba h
  obtain ⟨h13, h⟩ := He.ba h
  obtain ⟨h14, h⟩ := He.ba h
  obtain ⟨h15, h⟩ := He.ba h
  obtain ⟨h16, h⟩ := He.ba h
  obtain ⟨h17, h18⟩ := He.ba h
  exact ⟨⟨of_decide_eq_true h1, of_decide_eq_true h2, of_decide_eq_true h3, h4, of_decide_eq_true h5, of_decide_eq_true h6, of_decide_eq_true h7, of_decide_eq_true h8⟩, ⟨of_decide_eq_true h1, of_decide_eq_true h2, of_decide_eq_true h3, h4⟩, of_decide_eq_true h9, of_decide_eq_true h10, of_decide_eq_true h11, of_decide_eq_true h12, of_decide_eq_true h13, of_decide_eq_true h14, of_decide_eq_true h15, of_decide_eq_true h16, of_decide_eq_true h17, of_decide_eq_true h18⟩
structure Ex3 (K : PySem.W.Frag) : Prop where
  bn : ExF K (He.ga K "BadName") true false false
  bh : ExF K (He.ga K "BadHeap") false true false
  nn : ExF K (He.ga K "NoName") false false true
def ex3B (K : PySem.W.Frag) : Bool := exfB K (He.ga K "BadName") true false false && (exfB K (He.ga K "BadHeap") false true false && exfB K (He.ga K "NoName") false false true)
theorem ex3B_ok {K : PySem.W.Frag} (h : ex3B K = true) : Ex3 K := let ⟨a, h⟩ := He.ba h; let ⟨b, c⟩ := He.ba h; ⟨exfB_ok a, exfB_ok b, exfB_ok c⟩
def dBad : PyData := .tuple [.str "names", .int (-1), .str "value"]
/-- what an exception is, as _law_refused should find it -/
def ExcAs (K : PySem.W.Frag) (H : Hp) (kind : Int) (u : V) (cls : Value) (d : Option Addr) : Prop := ∃ dd, d = some dd ∧ ((kind = 0 ∧ cls = eBadN K ∧ ∃ z, u = .str z ∧ H dd = some (xdN z)) ∨ (kind = 1 ∧ cls = eBadH K ∧ H dd = some (xdT "names" (-1) "value") ∧ Dp K H u dBad) ∨ (kind = 2 ∧ cls = eNoN K ∧ ∃ z, u = .str z ∧ H dd = some (xdN z)))
theorem k_xfQ {a : Addr} {d : Option Addr} {f : Str} {te : TE} {σ : L2.St} {H : Hp} {Q : VK} (h : te σ H fun x H1 => x = .ref a ∧ ∃ (dd : Addr) (fs : List (Str × V)) (v : V), d = some dd ∧ H1 dd = some (.xd fs) ∧ fs.lookup f = some v ∧ Q v H1) : tXfQ a d f te σ H Q := h
def spRefQ (K : PySem.W.Frag) (p : Addr × Obj) : Sp := fun vs H Q _ => ∃ (kind : Int) (u : V) (cls : Value) (d : Option Addr), vs = [.ref p.1, .int kind, u] ∧ (∃ vs, p.2.data = .fields vs) ∧ Zc cls d p.2 ∧ ExcAs K H kind u cls d ∧ ∀ H', Ex H H' → Q (.bl true) H'
section
variable {P : Program} {w : World} {K : PySem.W.Frag} {mg : Str → Option Value} {base : Heap}
theorem q_l_refused (T : Tx w K mg) (Z : Ex3 K) : CalQ P w K mg base 3 "_law_refused" ["e", "kind", "due"] (spRefQ K) := by
  refine calQ_mk T.D_l_refused T.m__law_refused sc_l_refused (fun _ _ _ _ _ _ us hl => match us, hl with | [_, _, _], _ => rfl) (fun p vs H Q E h => ?_) (fun f cdv A outer s H vs Q E p hot hr h => ?_)
  · obtain ⟨kind, u, cls, d, rfl, _⟩ := h
    rfl
  · obtain ⟨kind, u, cls, d, rfl, hf, hz, ⟨dd, rfl, hE⟩, k⟩ := h
    have hm : p ∈ (L2H.cxH CX0 P w K mg base ["e", "kind", "due", "flags"] "_law_refused" (defScope s_l_refused) f cdv A outer s H E p).pn := List.mem_singleton.mpr rfl
    have hu : (A.deeper (envOfC "_law_refused" (defScope s_l_refused) s.heap.objs.size f cdv)).units + 64 < cLine := by have := hr.un; omega
    have all : ∀ (C : Addr) (a b c : Bool), ExF K C a b c → Zc (.ref C) (some dd) p.2 → (a = decide (kind = 0) ∧ b = decide (kind = 1) ∧ c = decide (kind = 2)) → ((kind ≠ 1 ∧ ∃ z, u = .str z ∧ H dd = some (xdN z)) ∨ (kind = 1 ∧ H dd = some (xdT "names" (-1) "value") ∧ Dp K H u dBad)) →
      ∃ t, PSs (L2H.cxH CX0 P w K mg base ["e", "kind", "due", "flags"] "_law_refused" (defScope s_l_refused) f cdv A outer s H E p) (defBody s_l_refused) t ∧ t { nx := fun _ H' => Q .non H', rt := Q } (L2.start ["e", "kind", "due", "flags"] [.ref p.1, .int kind, u]) H := by
      intro C a b c F hz hk hd
      have hE : ExAt H (some dd) := by
        rcases hd with ⟨_, z, _, h⟩ | ⟨_, h, _⟩
        · exact .inr ⟨dd, _, rfl, h⟩
        · exact .inr ⟨dd, _, rfl, h⟩
      refine ⟨_, (pss_cons (ps_set (i := 3) sc_l_refused.nd rfl (Or.inl rfl) (pe_tup (pa_cons (pe_callB (cr_isQ F.ec hz hf hm) rfl T.f_isinstance (by decide +kernel) (pa_cons (pv 0) (pa_cons (by exact C8.pe_gc rfl T.c_BadName) pa_nil))) (pa_cons (pe_callB (cr_isQ F.ec hz hf hm) rfl T.f_isinstance (by decide +kernel) (pa_cons (pv 0) (pa_cons (by exact C8.pe_gc rfl T.c_BadHeap) pa_nil))) (pa_cons (pe_callB (cr_isQ F.ec hz hf hm) rfl T.f_isinstance (by decide +kernel) (pa_cons (pv 0) (pa_cons (by exact C8.pe_gc rfl T.c_NoName) pa_nil))) pa_nil)))))
        (pss_cons (ps_if (pw_or (pt_cmpR (op_neD hu) (pv 3) (pe_tup (pa_cons (pe_cmpR op_eq (pv 1) pe_int (nomark _)) (pa_cons (pe_cmpR op_eq (pv 1) pe_int (nomark _)) (pa_cons (pe_cmpR op_eq (pv 1) pe_int (nomark _)) pa_nil)))) (nomark _)) (pw_or1 (pt_not (pt_val (by exact pe_callB (cr_isQ F.ec hz hf hm) rfl T.f_isinstance (by decide +kernel) (pa_cons (pv 0) (pa_cons (pe_ty (n := "ValueError") rfl T.f_ValueError (by decide +kernel)) pa_nil))))))).pt (pss_one (ps_ret pe_bl)) pss_nil)
        (pss_cons (ps_if (pt_val (pe_callB (cr_isQT F.ec hz hf hm) rfl T.f_isinstance (by decide +kernel) (pa_cons (pv 0) (pa_cons (pe_tup (pa_cons (by exact C8.pe_gc rfl T.c_Lost) (pa_cons (by exact C8.pe_gc rfl T.c_NameTaken) (pa_cons (by exact C8.pe_gc rfl T.c_OtherNames) pa_nil)))) pa_nil)))) (pss_one (ps_ret pe_bl)) pss_nil)
        (pss_cons (ps_if (pt_cmpR op_eq (pv 1) pe_int (nomark _)) (pss_one (ps_ret (by exact pe_calQ (q_l_same T) hr (by decide) hot hm rfl (pa_cons (pe_tup (pa_cons (pe_xfQ F.x F.pt hz hf hm (pv 0)) (pa_cons (pe_xfQ F.x F.att hz hf hm (pv 0)) (pa_cons (pe_xfQ F.x F.wy hz hf hm (pv 0)) pa_nil)))) (pa_cons (pv 2) pa_nil))))) pss_nil)
        (pss_one (ps_ret (by exact pe_calQ (q_l_same T) hr (by decide) hot hm rfl (pa_cons (pe_xfQ F.x F.nm hz hf hm (pv 0)) (pa_cons (pv 2) pa_nil))))))))), ?_⟩
      dsimp only [L2H.cxH, cxOf]
      repeat walk_at "st"
      refine ⟨_, _, a, rfl, hE, .own _, F.bn, ?_⟩
      repeat walk_at "st"
      refine ⟨_, _, b, rfl, hE, .own _, F.bh, ?_⟩
      repeat walk_at "st"
      refine ⟨_, _, c, rfl, hE, .own _, F.nn, ?_⟩
      repeat walk_at "st"
      intro t1 H1 ht1 e1 h1
      repeat walk_at "st"
      intro t2 H2 ht2 e2 h2
      obtain ⟨ea, eb, ec⟩ := hk
      refine ⟨.tuple [.bool a, .bool b, .bool c], .tuple [.bool (decide (kind = 0)), .bool (decide (kind = 1)), .bool (decide (kind = 2))], .tup (.inl (.inl (e2.get h1))) (.cons (.bl _) (.cons (.bl _) (.cons (.bl _) .nil))), .tup (.inl (.inl h2)) (.cons ?_ (.cons ?_ (.cons ?_ .nil))), ?_, ?_, ?_⟩
      · rw [dint]; exact .bl _
      · rw [dint]; exact .bl _
      · rw [dint]; exact .bl _
      · cases a <;> cases b <;> cases c <;> decide +kernel
      · generalize decide (kind = 0) = a
        generalize decide (kind = 1) = b
        generalize decide (kind = 2) = c
        cases a <;> cases b <;> cases c <;> decide +kernel
      rw [← ea, ← eb, ← ec, show PyData.eqv (.tuple [.bool a, .bool b, .bool c]) (.tuple [.bool a, .bool b, .bool c]) = true from by cases a <;> cases b <;> cases c <;> decide +kernel]
      repeat walk_at "st"
      have e02 : Ex H H2 := e1.trans e2
      have exm : ∀ {Ha Hb : Hp}, Ex Ha Hb → ExAt Ha (some dd) → ExAt Hb (some dd) := fun e h => h.imp id fun ⟨dd, fs, x, y⟩ => ⟨dd, fs, x, e.get y⟩
      have hE2 := exm e02 hE
      refine ⟨_, _, true, rfl, hE2, .ty _, F.val, ?_⟩
      repeat walk_at "st"
      intro t3 H3 ht3 e3 h3
      repeat walk_at "st"
      have hE3 := exm e3 hE2
      refine ⟨_, _, _, false, rfl, hE3, h3, .cons (.own _) (.cons (.own _) (.cons (.own _) .nil)), F.no, ?_⟩
      repeat walk_at "st"
      rw [dint]
      have e03 := e02.trans e3
      rcases hd with ⟨k1, z, rfl, hdd⟩ | ⟨k1, hdd, hdu⟩
      · rw [decide_eq_false k1]
        repeat walk_at "st"
        refine k_callQ ?_
        repeat walk_at "st"
        refine k_xfQ ?_
        repeat walk_at "st"
        refine ⟨rfl, dd, _, .str z, rfl, e03.get hdd, by simp [List.lookup], ?_⟩
        repeat walk_at "st"
        exact ⟨_, _, .str z, rfl, .str z, .str z, rfl, by simp [wt], fun H' eH => k _ (e03.trans eH)⟩
      · rw [decide_eq_true k1]
        repeat walk_at "st"
        refine k_callQ ?_
        repeat walk_at "st"
        have hx := e03.get hdd
        refine k_xfQ ?_
        repeat walk_at "st"
        refine ⟨rfl, dd, _, .str "names", rfl, hx, by with_unfolding_all rfl, ?_⟩
        repeat walk_at "st"
        refine k_xfQ ?_
        repeat walk_at "st"
        refine ⟨rfl, dd, _, .int (-1), rfl, hx, by with_unfolding_all rfl, ?_⟩
        repeat walk_at "st"
        refine k_xfQ ?_
        repeat walk_at "st"
        refine ⟨rfl, dd, _, .str "value", rfl, hx, by with_unfolding_all rfl, ?_⟩
        repeat walk_at "st"
        intro t5 H5 ht5 e5 h5
        repeat walk_at "st"
        exact ⟨_, _, dBad, rfl, .tup (.inl (.inl h5)) (.cons (.str _) (.cons (.int _) (.cons (.str _) .nil))), Dp_ex (e03.trans e5) _ _ hdu, rfl, by simp [dBad, wt, wts], fun H' eH => k _ (e03.trans (e5.trans eH))⟩
    rcases hE with ⟨rfl, rfl, z, hu2, hd⟩ | ⟨rfl, rfl, hd, hdu⟩ | ⟨rfl, rfl, z, hu2, hd⟩
    · exact all _ _ _ _ Z.bn hz ⟨rfl, rfl, rfl⟩ (.inl ⟨by decide, z, hu2, hd⟩)
    · exact all _ _ _ _ Z.bh hz ⟨rfl, rfl, rfl⟩ (.inr ⟨rfl, hd, hdu⟩)
    · exact all _ _ _ _ Z.nn hz ⟨rfl, rfl, rfl⟩ (.inl ⟨by decide, z, hu2, hd⟩)
end
/-- _law_refused in a suite -/
def spRefS (K : PySem.W.Frag) (a : Addr) (cls : Value) (d : Option Addr) : Sp := fun vs H Q _ => ∃ (kind : Int) (u : V), vs = [.ref a, .int kind, u] ∧ ExcAs K H kind u cls d ∧ ∀ H', Ex H H' → Q (.bl true) H'
theorem pe_refS {X : Cx} {a : Addr} {oe : Obj} {cls : Value} {d : Option Addr} {pn : List (Addr × Obj)} {j : Nat} {q pos : Pos} {e : Expr} {es : List Expr} {t : TA} (c : CalQ X.prog X.w X.K X.mg X.base 3 "_law_refused" ["e", "kind", "due"] (spRefQ X.K)) (hr : Room j X.A) (hk : 3 ≤ j) (hz : L2N.Zn cls d oe) (hf : ∃ vs, oe.data = .fields vs) (hg : Gl X "_law_refused")
    (ha : PA (X.suite a ((a, oe) :: pn)) (e :: es) t) (he : starEach (e :: es) X.env = (false, eval e X.env) :: starEach es X.env := by rfl) (hpl : (backTo pos (starEach es X.env)).any (·.1) = false := by rfl) :
    PE (X.suite a ((a, oe) :: pn)) (.Call (.Name "_law_refused" q) (e :: es) [] pos) (tCallR (spRefS X.K a cls d) t) := by
  have hot : L2H.Hot1 (X.suite a ((a, oe) :: pn)).A (a, oe) := ⟨rfl, let ⟨vs, hv⟩ := hf; ⟨vs, hv, hz.2.2 vs hv⟩⟩
  have hr2 : L2H.RoomH j (X.suite a ((a, oe) :: pn)).A := ⟨hr.dp, hr.un⟩
  have hdb : (("_law_refused" : Str) == ("__debug__" : Str)) = false := by decide
  exact pe_calR (X := X.suite a ((a, oe) :: pn)) (p := (a, oe)) c hr2 hk hot List.mem_cons_self (fun vs H Q ⟨kind, u, e, hE, k⟩ => ⟨kind, u, cls, d, e, hf, hz.zc, hE, k⟩) hg ha hdb he hpl


/-! ### _law_refuses -/
def spRefuses (K : PySem.W.Frag) : Sp := fun vs H Q _ => ∃ (p : Addr) (kind : Int) (z : Str) (v : Int) (ns : List (Str × Int)) (cs : List Cell), vs = [.ref p, .int kind, .str z, .int v] ∧ HeapAt K H p ns cs ∧ z.length ≤ 100 ∧ ns.length ≤ 15 ∧
  ((kind = 0 ∧ nameB z = false) ∨ (kind = 1 ∧ nameB z = true ∧ ¬ (0 ≤ v ∧ v ≤ 9999) ∧ (∀ c, c ∈ cs → c.a ≠ v ∧ c.l ≠ v) ∧ ∀ n, n ∈ ns → n.2 ≠ v) ∨ (kind = 2 ∧ ∀ n, n ∈ ns → n.1 ≠ z)) ∧ ∀ H', Ex H H' → Q (.bl true) H'
section
variable {P : Program} {w : World} {K : PySem.W.Frag} {mg : Str → Option Value} {base : Heap}
theorem c_l_refuses (Y : Ty P w K mg) (Z : Ex3 K) : Cal P w K mg base CX0 10 "_law_refuses" ["heap", "kind", "name", "value"] (spRefuses K) := by
  have T := Y.T
  refine cal_mk T.D_l_refuses T.m__law_refuses sc_l_refuses (fun _ _ _ _ _ _ us hl => match us, hl with | [_, _, _, _], _ => rfl) (fun vs H Q E h => ?_) (fun f cdv A outer s H vs Q E hr h => ?_)
  · obtain ⟨p, kind, z, v, ns, cs, rfl, _⟩ := h
    rfl
  · obtain ⟨p, kind, z, v, ns, cs, rfl, hA, hzl, hnl, hk, k⟩ := h
    have rest : ∃ t, PSs (cxOf CX0 P w K mg base ["heap", "kind", "name", "value", "due", "turn", "right", "e"] "_law_refuses" (defScope s_l_refuses) f cdv A outer s H E).nox ((defBody s_l_refuses).drop 1) t ∧ ∀ (u : V) (H1 : Hp), Ex H H1 → (kind = 1 → Dp K H1 u dBad) → (kind ≠ 1 → u = .str z) →
        t { nx := fun _ H' => Q .non H', rt := Q } [some (.ref p), some (.int kind), some (.str z), some (.int v), some u, none, none, none] H1 := by
      refine ⟨_, ((pss_cons (ps_for PassesOwn.never rfl (pi_range1 rfl T.f_range (pa_cons (pe_op o_add pe_int (by exact pe_callTy cr_int rfl T.f_int (by decide +kernel) (pa_cons (pe_cmpR op_eq (pv 1) pe_int (nomark _)) pa_nil))) pa_nil)) (pg_name (i := 5) sc_l_refuses.nd rfl (Or.inl rfl)) (pss_cons (ps_set (i := 6) sc_l_refuses.nd rfl (Or.inl rfl) pe_bl)
  (pss_cons (L2N.ps_try_as (i := 7) rfl rfl sc_l_refuses.nd rfl rfl ⟨rfl, by decide, .inl T.m_HeapError⟩ takesF (fun W pn xe tk hp => (pss_one (ps_if (pw_and (pt_cmpR op_eq (pv 1) pe_int (nomark _)) (pw_and1 (pt_cmpR op_eq (pv 5) pe_int (nomark _)))).pt (pss_one (ps_expr (by exact pe_metS (pv 0) T.cls_Heap (me_Heap_value Y) hr (by decide) tk (pa_cons (pv 2) pa_nil)))) (pss_one (ps_if (pt_cmpR op_eq (pv 1) pe_int (nomark _)) (pss_one (ps_expr (by exact pe_metS (pv 0) T.cls_Heap (me_Heap_without_name Y) hr (by decide) tk (pa_cons (pv 2) pa_nil)))) (pss_one (ps_expr (by exact pe_metS (pv 0) T.cls_Heap (me_Heap_with_name Y) hr (by decide) tk (pa_cons (pv 2) (pa_cons (pv 3) pa_nil)))))))))) (fun a oe cls d pn hz hf => (pss_one (ps_set (i := 6) sc_l_refuses.nd rfl (Or.inl rfl) (by exact pe_refS (q_l_refused T Z) hr (by decide) hz hf rfl (pa_cons (pv 7) (pa_cons (pv 1) (pa_cons (pv 4) pa_nil))))))))
  (pss_one (ps_if (pt_not (pt_val (pv 6))) (pss_one (ps_ret pe_bl)) pss_nil)))))
  (pss_one (ps_ret pe_bl)))), fun u H1 e1 du1 du2 => ?_⟩
      dsimp only [cxOf, Cx.nox]
      repeat walk_at "st"
      rw [dint]
      have hbnd : (1 : Int) + (if decide (kind = 2) = true then 1 else 0) ≤ 2 := by split <;> omega
      repeat walk_at "st"
      refine for_range (lo := 0) (fun _ σ' H' => ∃ v5 v6 v7, σ' = [some (.ref p), some (.int kind), some (.str z), some (.int v), some u, v5, v6, v7] ∧ Ex H1 H') ⟨_, _, _, rfl, Ex.refl _⟩ (fun i σ' H2 hi ⟨v5, v6, v7, es, e2⟩ => ?_) (fun σ' H2 ⟨v5, v6, v7, es, e2⟩ => ?_)
      · subst es
        have e02 := e1.trans e2
        have hA2 := hA.ex e02
        obtain ⟨dx, tn, tc, d, kvs, hA3⟩ := id hA2
        rcases hk with ⟨hk0, hnm⟩ | ⟨hk1, hnm, hvv, hcc, hnn⟩ | ⟨hk2, hno⟩
        · subst hk0
          obtain rfl := du2 (by decide)
          repeat walk_at "st"
          rw [dint, show decide ((0 : Int) = 2) = false from rfl]
          repeat walk_at "st"
          rw [dint, show decide ((0 : Int) = 2) = false from rfl]
          repeat walk_at "st"
          refine k_metS ?_
          repeat walk_at "st"
          refine ⟨p, dx, _, rfl, hA3.ins, hf_with _ _ _, ?_⟩
          repeat walk_at "st"
          refine ⟨p, z, v, ns, cs, rfl, hA2, hzl, hnl, fun hN => absurd (hN.1.symm.trans hnm) (by decide), fun _ H3 d3 e3 hd3 => ⟨true, Z.bn.hm, fun _ a na => ?_, fun z => nomatch z⟩, fun h => absurd (h.symm.trans hnm) (by decide)⟩
          repeat walk_at "st"
          refine k_callR ?_
          repeat walk_at "st"
          refine ⟨0, .str z, rfl, ⟨d3, rfl, .inl ⟨rfl, rfl, z, rfl, hd3⟩⟩, fun H4 e4 => ?_⟩
          repeat walk_at "st"
          exact ⟨_, _, _, rfl, e2.trans (e3.trans e4)⟩
        · subst hk1
          have hdu := du1 rfl
          repeat walk_at "st"
          rw [dint, show decide ((1 : Int) = 2) = false from rfl]
          repeat walk_at "st"
          rw [dint, show decide ((1 : Int) = 2) = false from rfl]
          repeat walk_at "st"
          refine k_metS ?_
          repeat walk_at "st"
          refine ⟨p, dx, _, rfl, hA3.ins, hf_with _ _ _, ?_⟩
          repeat walk_at "st"
          refine ⟨p, z, v, ns, cs, rfl, hA2, hzl, hnl, fun hN => absurd ⟨hN.2.2.1, hN.2.2.2.1⟩ hvv, fun h => absurd (hnm.symm.trans h) (by decide), fun _ _ => ⟨hvv, hcc, hnn, fun H3 d3 e3 hd3 => ⟨true, Z.bh.hm, fun _ a na => ?_, fun z => nomatch z⟩⟩⟩
          repeat walk_at "st"
          refine k_callR ?_
          repeat walk_at "st"
          refine ⟨1, u, rfl, ⟨d3, rfl, .inr (.inl ⟨rfl, rfl, hd3, Dp_ex (e2.trans e3) _ _ hdu⟩)⟩, fun H4 e4 => ?_⟩
          repeat walk_at "st"
          exact ⟨_, _, _, rfl, e2.trans (e3.trans e4)⟩
        · subst hk2
          obtain rfl := du2 (by decide)
          repeat walk_at "st"
          rw [dint, show decide ((2 : Int) = 2) = true from rfl]
          repeat walk_at "st"
          rw [dint]
          by_cases hi0 : (0 + (i : Int)) = 0
          · rw [decide_eq_true hi0]
            repeat walk_at "st"
            refine k_metS ?_
            repeat walk_at "st"
            refine ⟨p, dx, _, rfl, hA3.ins, hf_value _ _ _, ?_⟩
            repeat walk_at "st"
            refine ⟨p, z, ns, cs, rfl, hA2, by omega, fun n hn en => absurd en (hno n hn), fun _ H3 d3 e3 hd3 => ⟨true, Z.nn.hm, fun _ a na => ?_, fun z => nomatch z⟩⟩
            repeat walk_at "st"
            refine k_callR ?_
            repeat walk_at "st"
            refine ⟨2, .str z, rfl, ⟨d3, rfl, .inr (.inr ⟨rfl, rfl, z, rfl, hd3⟩)⟩, fun H4 e4 => ?_⟩
            repeat walk_at "st"
            exact ⟨_, _, _, rfl, e2.trans (e3.trans e4)⟩
          · rw [decide_eq_false hi0]
            repeat walk_at "st"
            rw [dint, show decide ((2 : Int) = 2) = true from rfl]
            repeat walk_at "st"
            refine k_metS ?_
            repeat walk_at "st"
            refine ⟨p, dx, _, rfl, hA3.ins, hf_without _ _ _, ?_⟩
            repeat walk_at "st"
            refine ⟨p, z, ns, cs, rfl, hA2, by omega, fun ⟨n, hn, en⟩ => absurd en (hno n hn), fun _ H3 d3 e3 hd3 => ⟨true, Z.nn.hm, fun _ a na => ?_, fun z => nomatch z⟩⟩
            repeat walk_at "st"
            refine k_callR ?_
            repeat walk_at "st"
            refine ⟨2, .str z, rfl, ⟨d3, rfl, .inr (.inr ⟨rfl, rfl, z, rfl, hd3⟩)⟩, fun H4 e4 => ?_⟩
            repeat walk_at "st"
            exact ⟨_, _, _, rfl, e2.trans (e3.trans e4)⟩
      · subst es
        repeat walk_at "st"
        exact k _ (e1.trans e2)
    obtain ⟨tr, hrest, hgo⟩ := rest
    refine ⟨_, (pss_cons (ps_set (i := 4) sc_l_refuses.nd rfl (Or.inl rfl) (pe_ifExp (pt_cmpR op_eq (pv 1) pe_int (nomark _)) (pe_tup (pa_cons pe_str (pa_cons (pe_un un_neg pe_int) (pa_cons pe_str pa_nil)))) (pv 2)))
  hrest), ?_⟩
    try dsimp only [cxOf, Cx.nox]
    repeat walk_at "st"
    rw [dint]
    by_cases k1 : kind = 1
    · rw [decide_eq_true k1]
      repeat walk_at "st"
      intro t1 H1 ht1 e1 h1
      repeat walk_at "st"
      exact hgo _ H1 e1 (fun _ => .tup (.inl (.inl h1)) (.cons (.str _) (.cons (.int _) (.cons (.str _) .nil)))) (fun n => absurd k1 n)
    · rw [decide_eq_false k1]
      repeat walk_at "st"
      exact hgo _ H (Ex.refl _) (fun n => absurd n k1) (fun _ => rfl)
end


/-! ### law -/
def spLaw (K : PySem.W.Frag) : Sp := fun vs H Q _ => ∃ (a : Addr) (ns : List Int), vs = [.ref a] ∧ SqL K H a (ns.map V.int) ∧ ∀ H', Q (.bl true) H'
/-- what a row of the refusals asks -/
def RefOk (ns : List (Str × Int)) (cs : List Cell) (kind : Int) (z : Str) (v : Int) : Prop := z.length ≤ 100 ∧ ((kind = 0 ∧ nameB z = false) ∨ (kind = 1 ∧ nameB z = true ∧ ¬ (0 ≤ v ∧ v ≤ 9999) ∧ (∀ c, c ∈ cs → c.a ≠ v ∧ c.l ≠ v) ∧ ∀ n, n ∈ ns → n.2 ≠ v) ∨ (kind = 2 ∧ ∀ n, n ∈ ns → n.1 ≠ z))
section
variable {P : Program} {w : World} {K : PySem.W.Frag} {mg : Str → Option Value} {base : Heap}
theorem law_mk {CX : CXT} {k : Nat} {x qual : Str} {params : Arguments} {body : List Stmt} {scope : Scope} {N ps : List Str} {sp : Sp} {f : Addr} {fd : FuncData} (F : FunD K x qual params body scope [] [] f fd) (S : FnScope N ps scope) (len : ∀ vs H Q E, sp vs H Q E → vs.length = ps.length)
    (hbody : ∀ (f : Addr) (cdv : Value) (A : Around) (outer : List Env) (s : Shared) (H : Hp) (vs : List V) (Q : VK) (E : XK), Room k (A.deeper (envOfC qual scope s.heap.objs.size f cdv)) → sp vs H Q E →
      ∃ t, PSs (cxOf CX P w K mg base N qual scope f cdv A outer s H E).nox body t ∧ t { nx := fun _ H' => Q .non H', rt := Q } (start N vs) H) : FnOk P w K mg base CX (k + 1) f fd ps sp :=
  F.ok S len fun cdv A outer s H vs Q E hr h => let ⟨t, ht, q⟩ := hbody f cdv A outer s H vs Q E hr h; ⟨t, ht.nox, q⟩
theorem c_law (Y : Ty P w K mg) (Z : Ex3 K) (N : NeF K) {fl : Addr} {fd : FuncData} (F : FunD K "law" "law" (defArgs s_law) (defBody s_law) (defScope s_law) [] [] fl fd) : FnOk P w K mg base CX0 11 fl fd ["script"] (spLaw K) := by
  have T := Y.T
  refine law_mk F sc_law (fun vs H Q E h => ?_) (fun f cdv A outer s H vs Q E hr h => ?_)
  · obtain ⟨a, ns, rfl, _⟩ := h
    rfl
  · obtain ⟨a, sc, rfl, hS, k⟩ := h
    have hu := hu_of hr
    refine ⟨_, ((pss_cons (ps_set (i := 1) sc_law.nd rfl (Or.inl rfl) (by exact pe_cal (c_l_pool T) hr (by decide) rfl pass0 (pa_cons (pv 0) pa_nil)))
  (pss_cons (ps_asg (by exact pe_cal (c_l_drawn T) hr (by decide) rfl pass0 (pa_cons (pv 1) pa_nil)) (pg_tup (n := 3) rfl (pgs_cons (pg_name (i := 2) sc_law.nd rfl (Or.inl rfl)) (pgs_cons (pg_name (i := 3) sc_law.nd rfl (Or.inl rfl)) (pgs_cons (pg_name (i := 4) sc_law.nd rfl (Or.inl rfl)) pgs_nil)))))
  (pss_cons (ps_set (i := 5) sc_law.nd rfl (Or.inl rfl) (by exact pe_cal (c_l_made T) hr (by decide) rfl pass0 (pa_cons (pv 2) (pa_cons (pv 3) (pa_cons (pe_cmpR op_eq (by exact pe_cal (c_l_draw T) hr (by decide) rfl pass0 (pa_cons (pv 1) (pa_cons pe_int pa_nil))) pe_int (nomark _)) pa_nil)))))
  (pss_cons (ps_if (pt_not (pt_val (by exact pe_cal (c_l_right Y) hr (by decide) rfl pass0 (pa_cons (pv 5) (pa_cons (pv 2) (pa_cons (pv 3) (pa_cons (pv 4) pa_nil))))))) (pss_one (ps_ret pe_bl)) pss_nil)
  (pss_cons (ps_for PassesOwn.never rfl (pi_range1 rfl T.f_range (pa_cons pe_int pa_nil)) (pg_name (i := 6) sc_law.nd rfl (Or.inl rfl)) (pss_one (ps_if (pt_not (pt_val (by exact pe_cal (c_l_with Y N) hr (by decide) rfl pass0 (pa_cons (pv 1) (pa_cons (pv 5) (pa_cons (pv 2) (pa_cons (pv 3) (pa_cons (pv 4) (pa_cons (pv 6) pa_nil))))))))) (pss_one (ps_ret pe_bl)) pss_nil)))
  (pss_cons (ps_set (i := 7) sc_law.nd rfl (Or.inl rfl) (pe_lst (pa_cons pe_str (pa_cons pe_str (pa_cons pe_str (pa_cons pe_str (pa_cons pe_str (pa_cons pe_str (pa_cons pe_str (pa_cons pe_str (pa_cons pe_str (pa_cons pe_str (pa_cons pe_str (pa_cons pe_str pa_nil))))))))))))))
  (pss_cons (ps_set (i := 8) sc_law.nd rfl (Or.inl rfl) (pe_ix (ix_listK (K := K) rfl) (pv 7) (by exact pe_cal (c_l_draw T) hr (by decide) rfl pass0 (pa_cons (pv 1) (pa_cons pe_int pa_nil))) (fun _ _ => rfl)))
  (pss_cons (ps_set (i := 9) sc_law.nd rfl (Or.inl rfl) (pe_ix (ix_listK (K := K) rfl) (pe_lst (pa_cons (pe_un un_neg pe_int) (pa_cons pe_int (pa_cons (pe_op o_pow pe_int pe_int) (pa_cons (pe_un un_neg (pe_op o_pow pe_int pe_int)) pa_nil))))) (by exact pe_cal (c_l_draw T) hr (by decide) rfl pass0 (pa_cons (pv 1) (pa_cons pe_int pa_nil))) (fun _ _ => rfl)))
  (pss_cons (ps_set (i := 10) sc_law.nd rfl (Or.inl rfl) (pe_ifExp (pt_cmp (pc_dnotin hu pe_str (pv 2)) rfl) pe_str pe_str))
  (pss_cons (ps_set (i := 11) sc_law.nd rfl (Or.inl rfl) (pe_lst (pa_cons (pe_tup (pa_cons pe_int (pa_cons (pv 8) (pa_cons pe_int pa_nil)))) (pa_cons (pe_tup (pa_cons pe_int (pa_cons pe_str (pa_cons (pv 9) pa_nil)))) (pa_cons (pe_tup (pa_cons pe_int (pa_cons pe_str (pa_cons (pv 9) pa_nil)))) (pa_cons (pe_tup (pa_cons pe_int (pa_cons pe_str (pa_cons pe_int pa_nil)))) pa_nil))))))
  (pss_cons (ps_for PassesOwn.never rfl (pi_list (pe_op op_cat (pv 11) (pe_lst (pa_cons (pe_tup (pa_cons pe_int (pa_cons (pv 10) (pa_cons pe_int pa_nil)))) (pa_cons (pe_tup (pa_cons pe_int (pa_cons pe_str (pa_cons pe_int pa_nil)))) pa_nil))))) (pg_tup (n := 3) rfl (pgs_cons (pg_name (i := 12) sc_law.nd rfl (Or.inl rfl)) (pgs_cons (pg_name (i := 13) sc_law.nd rfl (Or.inl rfl)) (pgs_cons (pg_name (i := 14) sc_law.nd rfl (Or.inl rfl)) pgs_nil)))) (pss_one (ps_if (pt_not (pt_val (by exact pe_cal (c_l_refuses Y Z) hr (by decide) rfl pass0 (pa_cons (pv 5) (pa_cons (pv 12) (pa_cons (pv 13) (pa_cons (pv 14) pa_nil))))))) (pss_one (ps_ret pe_bl)) pss_nil)))
  (pss_one (ps_ret (by exact pe_cal (c_l_right Y) hr (by decide) rfl pass0 (pa_cons (pv 5) (pa_cons (pv 2) (pa_cons (pv 3) (pa_cons (pv 4) pa_nil))))))))))))))))))), ?_⟩
    dsimp only [cxOf, Cx.nox]
    repeat walk_at "st"
    refine ⟨a, sc, rfl, hS, fun p H1 e1 hp P1 => ?_⟩
    repeat walk_at "st"
    refine ⟨p, rfl, P1, fun H2 t na ca la ms xs pl b2 P2 ht D => ?_⟩
    repeat walk_at "st"
    have nlp : la ≠ p := npool P1 D.fresh.2.2
    refine ⟨p, 2, rfl, P2, by decide, fun r3 H3 r30 r31 P3 b3 => ?_⟩
    repeat walk_at "st"
    refine ⟨na, ca, _, ms, xs, rfl, D.names.exP P2 b3, D.nin, by have := D.nl; omega, D.cells.exP P2 b3, D.cin, D.cl, D.ne, fun H5 h ns cs e5 hA hnn hcc => ?_⟩
    have hN5 := (D.names.exP P2 b3).ex e5
    have hC5 := (D.cells.exP P2 b3).ex e5
    have hL5 := e5.get (b3 _ _ nlp D.pls)
    have P5 := P3.ex e5
    repeat walk_at "st"
    refine ⟨h, na, ca, la, ns, ms, cs, xs, pl, rfl, hA, hN5, by have := D.nl; omega, D.nin, hC5, D.cl, D.cin, hnn, hcc, D.ne, hL5, by have := D.pll; omega, fun H6 e6 => ?_⟩
    repeat walk_at "st"
    have hA6 := hA.ex e6
    have hN6 := hN5.ex e6
    have hC6 := hC5.ex e6
    have hL6 := e6.get hL5
    have P6 := P5.ex e6
    have hml : ms.length ≤ 8 := D.nl
    have hnl : ns.length ≤ 8 := by
      have hno : NmOk ns := by obtain ⟨_, _, _, _, _, q⟩ := hA; exact q.no
      have nd : ns.Nodup := List.Pairwise.of_map (·.1) (fun a b h e => h (by rw [e])) hno.nd
      have := nodup_leG nd fun n hn => (hnn n).mp hn
      omega
    repeat walk_at "st"
    refine for_range (lo := 0) (fun _ σ' H' => ∃ v6, σ' = [some (.ref a), some (.ref p), some (.ref na), some (.ref ca), some (.ref la), some (.ref h), v6, none, none, none, none, none, none, none, none] ∧ ExB p H6 H' ∧ Pool H' p) ⟨_, rfl, ExB.of (Ex.refl _), P6⟩ (fun i σ' H7 hi ⟨v6, es, b7, P7⟩ => ?_) (fun σ' H7 ⟨v6, es, b7, P7⟩ => ?_)
    · subst es
      repeat walk_at "st"
      refine ⟨p, h, na, ca, la, 0 + (i : Int), ns, ms, cs, xs, pl, rfl, P7, hA6.exP P6 b7, hN6.exP P6 b7, hml, D.nin, hC6.exP P6 b7, D.cl, D.cin, hnn, hcc, D.ne, b7 _ _ nlp hL6, nlp, D.pll, D.prg, by omega, fun H8 b8 P8 => ?_⟩
      repeat walk_at "st"
      exact ⟨_, rfl, b7.trans b8, P8⟩
    · subst es
      repeat walk_at "st"
      intro wl H8 hwl e8 h8
      repeat walk_at "st"
      refine ⟨p, 12, rfl, P7.ex e8, by decide, fun r9 H9 r90 r91 P9 b9 => ?_⟩
      have h9 := b9 _ _ (npool P7 hwl) h8
      obtain ⟨bad, hbm, hba⟩ := pickS ["", "nil", "abcde", "A", "a1", "x ", "cell", "some", "aB", "drop", "or", " "] r90 (by exact r91)
      have hbad : nameB bad = false ∧ bad.length ≤ 100 := by
        have : ∀ z ∈ (["", "nil", "abcde", "A", "a1", "x ", "cell", "some", "aB", "drop", "or", " "] : List Str), nameB z = false ∧ z.length ≤ 100 := by decide +kernel
        exact this bad hbm
      refine k_ixL (.inl (.inl h9)) hba ?_
      repeat walk_at "st"
      refine k_pow ⟨by decide, by decide, by decide⟩ ?_
      repeat walk_at "st"
      refine k_pow ⟨by decide, by decide, by decide⟩ ?_
      repeat walk_at "st"
      intro vl H10 hvl e10 h10
      repeat walk_at "st"
      refine ⟨p, 4, rfl, P9.ex e10, by decide, fun r11 H11 r110 r111 P11 b11 => ?_⟩
      have h11 := b11 _ _ (npool P9 hvl) h10
      obtain ⟨odd, hom, hoa⟩ := pick [-1, 10000, 10 ^ 9, -10 ^ 9] r110 (by exact r111)
      have hodd : ¬ (0 ≤ odd ∧ odd ≤ 9999) := by
        have : ∀ v ∈ [(-1 : Int), 10000, 10 ^ 9, -10 ^ 9], ¬ (0 ≤ v ∧ v ≤ 9999) := by decide
        exact this odd hom
      refine k_ixL (.inl (.inl h11)) hoa ?_
      have bA : ExB p H6 H11 := b7.trans ((ExB.of e8).trans (b9.trans ((ExB.of e10).trans b11)))
      have hA11 := hA6.exP P6 bA
      have hN11 := hN6.exP P6 bA
      have hC11 := hC6.exP P6 bA
      have hL11 := bA _ _ nlp hL6
      have out : ∀ v : Int, ¬ (0 ≤ v ∧ v ≤ 9999) → (∀ c, c ∈ cs → c.a ≠ v ∧ c.l ≠ v) ∧ ∀ n, n ∈ ns → n.2 ≠ v := fun v hv => ⟨fun c hc => by
        have h1 := D.cin c ((hcc c).mp hc)
        have h2 := h1.1
        have h3 := h1.2.2.1
        exact ⟨fun e => hv (by omega), fun e => hv (by omega)⟩, fun n hn e => by
        have h1 := D.nin n ((hnn n).mp hn)
        exact hv (by rw [← e]; exact ⟨h1.2.2.1, h1.2.2.2.1⟩)⟩
      have R1 : RefOk ns cs 0 bad 0 := ⟨hbad.2, .inl ⟨rfl, hbad.1⟩⟩
      have R2 : RefOk ns cs 0 "nil" odd := ⟨by decide +kernel, .inl ⟨rfl, by decide +kernel⟩⟩
      have R3 : RefOk ns cs 1 "q" odd := ⟨by decide +kernel, .inr (.inl ⟨rfl, by decide +kernel, hodd, out odd hodd⟩)⟩
      have R4 : RefOk ns cs 1 "zz" 10000 := ⟨by decide +kernel, .inr (.inl ⟨rfl, by decide +kernel, by decide, out 10000 (by decide)⟩)⟩
      have noN : ∀ z : Str, nameB z = false → ∀ n, n ∈ ns → n.1 ≠ z := fun z hz n hn e => by
        have := (D.nin n ((hnn n).mp hn)).1
        rw [e, hz] at this
        cases this
      have R6 : RefOk ns cs 2 "Ab" 0 := ⟨by decide +kernel, .inr (.inr ⟨rfl, noN _ (by decide +kernel)⟩)⟩
      repeat walk_at "st"
      refine k_dinE (k := Sum.inr "q") rfl (.inl hN11.1) ?_
      by_cases hq : ∃ n, n ∈ ms ∧ n.1 = ("q" : Str)
      case' pos =>
        obtain ⟨n, hn, en⟩ := hq
        have hv := kvN_some hN11.2 hn
        rw [en] at hv
        rw [hv]
        repeat walk_at "st"
        have R5 : RefOk ns cs 2 "Q" 0 := ⟨by decide +kernel, .inr (.inr ⟨rfl, noN _ (by decide +kernel)⟩)⟩
      case' neg =>
        have hv : valV (kvN ms) (Sum.inr ("q" : Str)) = none := kvN_none fun q => by
          obtain ⟨n, hn, en⟩ := List.mem_map.mp q
          exact hq ⟨n, hn, en⟩
        rw [hv]
        repeat walk_at "st"
        have R5 : RefOk ns cs 2 "q" 0 := ⟨by decide +kernel, .inr (.inr ⟨rfl, fun n hn en => hq ⟨n, (hnn n).mp hn, en⟩⟩)⟩
      all_goals
        intro t1 G1 ht1 g1 k1
        repeat walk_at "st"
        intro t2 G2 ht2 g2 k2
        repeat walk_at "st"
        intro t3 G3 ht3 g3 k3
        repeat walk_at "st"
        intro t4 G4 ht4 g4 k4
        repeat walk_at "st"
        intro l5 G5 hl5 g5 k5
        repeat walk_at "st"
        intro t6 G6 ht6 g6 k6
        repeat walk_at "st"
        intro t7 G7 ht7 g7 k7
        repeat walk_at "st"
        intro l8 G8 hl8 g8 k8
        repeat walk_at "st"
        refine k_cat ((g6.trans (g7.trans g8)).get k5) k8 (by rw [sizeLine_eq]; simp only [List.length_cons, List.length_nil]; omega) fun l9 G9 hl9 g9 k9 => ?_
        have rows : ∀ v ∈ [V.ref t1, .ref t2, .ref t3, .ref t4, .ref t6, .ref t7], ∃ (t : Addr) (kd : Int) (z : Str) (o : Int), v = .ref t ∧ G9 t = some (.tup [.int kd, .str z, .int o]) ∧ RefOk ns cs kd z o := by
          intro v hv
          simp only [List.mem_cons, List.not_mem_nil, or_false] at hv
          rcases hv with rfl | rfl | rfl | rfl | rfl | rfl
          · exact ⟨t1, _, _, _, rfl, (g2.trans (g3.trans (g4.trans (g5.trans (g6.trans (g7.trans (g8.trans g9))))))).get k1, R1⟩
          · exact ⟨t2, _, _, _, rfl, (g3.trans (g4.trans (g5.trans (g6.trans (g7.trans (g8.trans g9)))))).get k2, R2⟩
          · exact ⟨t3, _, _, _, rfl, (g4.trans (g5.trans (g6.trans (g7.trans (g8.trans g9))))).get k3, R3⟩
          · exact ⟨t4, _, _, _, rfl, (g5.trans (g6.trans (g7.trans (g8.trans g9)))).get k4, R4⟩
          · exact ⟨t6, _, _, _, rfl, (g7.trans (g8.trans g9)).get k6, R5⟩
          · exact ⟨t7, _, _, _, rfl, (g8.trans g9).get k7, R6⟩
        have g09 : Ex H11 G9 := g1.trans (g2.trans (g3.trans (g4.trans (g5.trans (g6.trans (g7.trans (g8.trans g9)))))))
        repeat walk_at "st"
        refine for_it (walk_list (xs := [V.ref t1, .ref t2, .ref t3, .ref t4, .ref t6, .ref t7])) (fun _ σ' G' => ∃ v6 v7 v8 v9 v10 v11 v12 v13 v14, σ' = [some (.ref a), some (.ref p), some (.ref na), some (.ref ca), some (.ref la), some (.ref h), v6, v7, v8, v9, v10, v11, v12, v13, v14] ∧ Ex G9 G') ⟨_, _, _, _, _, _, _, _, _, rfl, Ex.refl _⟩ (fun i σ' G' _ ⟨_, _, _, _, _, _, _, _, _, _, e⟩ => .inl (.inl (e.get k9))) (fun i x σ' Ga Gb hi ⟨v6, v7, v8, v9, v10, v11, v12, v13, v14, es, ga⟩ y => ?_) (fun σ' Ga ⟨v6, v7, v8, v9, v10, v11, v12, v13, v14, es, ga⟩ => ?_)
        · subst es
          obtain ⟨rfl, y⟩ := y
          obtain ⟨t, kd, z, o, rfl, ht, hR⟩ := rows x (List.mem_of_getElem? y)
          have hta := ga.get ht
          repeat walk_at "st"
          refine ⟨h, kd, z, o, ns, cs, rfl, (hA11.ex g09).ex ga, hR.1, by omega, hR.2, fun Gc gc => ?_⟩
          repeat walk_at "st"
          exact ⟨_, _, _, _, _, _, _, _, _, rfl, ga.trans gc⟩
        · subst es
          have gA := g09.trans ga
          repeat walk_at "st"
          refine ⟨h, na, ca, la, ns, ms, cs, xs, pl, rfl, hA11.ex gA, hN11.ex gA, by omega, D.nin, hC11.ex gA, D.cl, D.cin, hnn, hcc, D.ne, gA.get hL11, by have := D.pll; omega, fun Gd gd => ?_⟩
          exact k _
end


end Lw
end

section
namespace Lw
open PySem PySem.Spec PyProof.Rows L2 L3
def progF : Str := "/claim/cut.py"
def sizP (K : PySem.W.Frag) : Addr := He.ma K (He.ga K "Heap") "size"
def sizG (K : PySem.W.Frag) : Addr := match PySem.W.recIn K (sizP K) "property" with
  | some (.ref g :: _) => g
  | _ => 0
def fs : List Sd := [supSd "BadName" "" (defBody s_BadName_init) (defArgs s_BadName_init) (defScope s_BadName_init), supSd "NoName" "" (defBody s_NoName_init) (defArgs s_NoName_init) (defScope s_NoName_init), supSd "BadHeap" "" (defBody s_BadHeap_init) (defArgs s_BadHeap_init) (defScope s_BadHeap_init),
  ⟨sizG, "size", "Heap.size", defArgs s_Heap_size, defBody s_Heap_size, defScope s_Heap_size, []⟩]
def sizB (K : PySem.W.Frag) : Bool := decide (PySem.W.findIn K (.ref (He.ga K "Heap")) "size" = some (some (.ref (sizP K)))) && (decide (PySem.W.specialIn K (.ref (sizP K)) "__get__" = some (some (.builtin "property.__get__"))) && (decide (PySem.W.takesIn K (.ref (sizP K)) = some true) && ((match PySem.W.recIn K (sizP K) "property" with
  | some (.ref _ :: _) => true
  | _ => false) && (PySem.W.keepIn K (.ref (sizG K)) && (match K.lookup (sizG K) with
  | some ⟨_, _, .func fd, _⟩ => PySem.W.codeIn K fd.code "Heap.size" && (He.dflB K fd.defaults [] && He.kwdB K fd.kwdefaults [])
  | _ => false)))))
def tyB (K : PySem.W.Frag) : Bool := decide (PySem.W.findIn K (.ref (He.ga K "Heap")) "__class__" = some (some (.builtin "object.__class__"))) && (decide (PySem.W.specialIn K (.builtin "object.__class__") "__get__" = some (some (.builtin "getset_descriptor.__get__"))) && (decide (PySem.W.takesIn K (.builtin "object.__class__") = some true) && decide (PySem.W.mroIn K (He.ga K "Heap") (.type "object") = some true)))
def exS (K : PySem.W.Frag) : Bool := ex K && (supNB progF K "BadName" && (supNB progF K "NoName" && (supTB progF K "BadHeap" && (sizB K && (tyB K && (ex3B K && (neB K && PySem.W.selfFirst K (He.ga K "Heap"))))))))
abbrev hkS : PySem.W.Hook := hookS 5 fa fn fs exS
abbrev R : PySem.W.OpenRow := PySem.W.OpenLaw.row PySem.Challenge.rw_heapshares_k06_first_arrivals_and_lost
def ob (s : PySem.W.SharedT) : AlS := obsS 5 fa fn fs exS (HandSHeadRun.getT s)
theorem ob_eq (s : PySem.W.SharedT) : ob s = hkS.obs s.abs := obsS_eq (HandSHeadRun.getT_eq s)
abbrev loose : List PySem.Str := (["_wall", "HeapError", "BadHeap", "BadName", "NoName", "NameTaken", "OtherNames", "Clash", "NotInHeap", "Lost", "LETTERS", "MOST_IN_NAME", "WHOLE", "NOT_NAMES", "has_letters_only", "is_name", "MARKS_OF_CELLS", "MOST_VALUE", "Heap", "heap_names"] : List PySem.Str) ++ (["heap_cells", "heap_from", "number_occurs", "address_outside", "heap_of_both", "arrival", "lost_cells", "_law_pool", "_law_draw", "_law_large", "_law_sort", "_law_same", "_law_names", "_law_places", "_law_due", "_law_heap", "_law_drawn", "_law_made", "_law_walk", "_law_lost"] : List PySem.Str) ++ (["_law_right", "_law_with", "_law_refused", "_law_refuses"] : List PySem.Str)
theorem run (w : World) : HandSHeadRun.RunEq R (PySem.W.view R.prog [48]) hkS ob 4200 loose w := by
  intro os
  kernel_rfl

end Lw
end

section
open PySem PySem.Spec PyProof.Rows L2 L3 PySem.W
namespace Lw
theorem tx_of {w : World} {K : PySem.W.Frag} {mg : Str → Option Value} {h : Heap} (hK : K.In h) (G : h.Ns mainGlobals mg) (c : SaysS fa fn fs exS K) : Tx w K mg :=
  ⟨h, hK, G, ⟨congrArg (fun z : He.AlD => ((z, []) : He.AlT)) c.d, (He.ba c.more).1, (fun p hp => nomatch hp), (fun p hp => nomatch hp), (fun p hp => nomatch hp)⟩⟩
theorem ty_of {P : Program} {w : World} {K : PySem.W.Frag} {mg : Str → Option Value} {h : Heap} (hF : P.main.file = progF) (hT : (P.main.scope.names.lookup ("super" : Str)).isSome = false) (hK : K.In h) (G : h.Ns mainGlobals mg) (gs : mg "super" = none) (c : SaysS fa fn fs exS K) : Ty P w K mg := by
  have T : Tx w K mg := tx_of hK G c
  have m := c.more
  obtain ⟨_, m1⟩ := He.ba m
  obtain ⟨b1, m2⟩ := He.ba m1
  obtain ⟨b2, m3⟩ := He.ba m2
  obtain ⟨b0, m3'⟩ := He.ba m3
  obtain ⟨b3, m4⟩ := He.ba m3'
  obtain ⟨b4, m5⟩ := He.ba m4
  obtain ⟨_, m6⟩ := He.ba m5
  obtain ⟨_, b5⟩ := He.ba m6
  refine ⟨T, ?_, ?_, ?_, ?_, ?_, ?_, b5⟩
  · rw [← hF] at b1
    exact supNB_ok (x := "BadName") T.m_BadName gs hT b1 (c.at_ 0) (fun env => ⟨_, rfl⟩)
  · rw [← hF] at b2
    exact supNB_ok (x := "NoName") T.m_NoName gs hT b2 (c.at_ 1) (fun env => ⟨_, rfl⟩)
  · rw [← hF] at b0
    exact supTB_ok (x := "BadHeap") T.m_BadHeap gs hT b0 (c.at_ 2) (fun env => ⟨_, rfl⟩)
  · unfold PySem.W.kitOne
    rw [if_pos (by simp)]
  · unfold tyB at b4
    obtain ⟨c1, n1⟩ := He.ba b4
    obtain ⟨c2, n2⟩ := He.ba n1
    obtain ⟨c3, c4⟩ := He.ba n2
    exact ⟨of_decide_eq_true c1, of_decide_eq_true c2, of_decide_eq_true c3, of_decide_eq_true c4⟩
  · unfold sizB at b3
    obtain ⟨s1, r1⟩ := He.ba b3
    obtain ⟨s2, r2⟩ := He.ba r1
    obtain ⟨s3, r3⟩ := He.ba r2
    obtain ⟨s4, r4⟩ := He.ba r3
    obtain ⟨s5, s6⟩ := He.ba r4
    have hrec : ∃ rest, PySem.W.recIn K (sizP K) "property" = some (.ref (sizG K) :: rest) := by
      unfold sizG
      split at s4
      · rename_i g rest q
        rw [q]
        exact ⟨rest, rfl⟩
      · cases s4
    obtain ⟨oc, od, osl, cl, dV, kV, doc, pm, an, cdv, ct, hlk, hcl⟩ := fnS_at (c.at_ 3)
    have e0 : cl = [] := List.map_eq_nil_iff.mp hcl
    subst e0
    have hlk2 : K.lookup (sizG K) = _ := hlk
    rw [hlk2] at s6
    dsimp only [PySem.W.fnX] at s6
    obtain ⟨k1, s7⟩ := He.ba s6
    obtain ⟨k2, k3⟩ := He.ba s7
    exact ⟨sizP K, sizG K, ⟨of_decide_eq_true s1, of_decide_eq_true s2, of_decide_eq_true s3, hrec⟩, _, ⟨oc, od, dV, kV, doc, pm, an, cdv, ct, osl, rfl, hlk2, k1, He.dflB_ok k2, He.kwdB_ok k3⟩, s5⟩
theorem ex3_of {K : PySem.W.Frag} (c : SaysS fa fn fs exS K) : Ex3 K := by
  have m := c.more
  obtain ⟨_, m1⟩ := He.ba m
  obtain ⟨b1, m2⟩ := He.ba m1
  obtain ⟨b2, m3⟩ := He.ba m2
  obtain ⟨b0, m3'⟩ := He.ba m3
  obtain ⟨b3, m4⟩ := He.ba m3'
  obtain ⟨b4, m5⟩ := He.ba m4
  obtain ⟨b5, _⟩ := He.ba m5
  exact ex3B_ok b5
theorem ne_of_head {K : PySem.W.Frag} (c : SaysS fa fn fs exS K) : NeF K := by
  have m := c.more
  obtain ⟨_, m1⟩ := He.ba m
  obtain ⟨b1, m2⟩ := He.ba m1
  obtain ⟨b2, m3⟩ := He.ba m2
  obtain ⟨b0, m3'⟩ := He.ba m3
  obtain ⟨b3, m4⟩ := He.ba m3'
  obtain ⟨b4, m5⟩ := He.ba m4
  obtain ⟨b5, m6⟩ := He.ba m5
  obtain ⟨b6, _⟩ := He.ba m6
  exact neB_ok b6


end Lw
end

open PySem PySem.W PySem.Calls PyProof.Rows
theorem PySem.Challenge.cw_heapshares_k06_first_arrivals_and_lost_holds : PySem.Challenge.rw_heapshares_k06_first_arrivals_and_lost.Holds := by
  w_on; o_law
  refine HandSHeadRun.head_any (r := Lw.R) (q := view Lw.R.prog [48]) (H := Lw.hkS) (ob := Lw.ob) (M := 4200) (loose := Lw.loose) (d := HandSHeadRun.topDef Lw.R.prog 48) (kwd := []) Lw.ob_eq
    (by kernel_rfl) (fun s => by kernel_rfl) Lw.run (by kernel_rfl) (by kernel_rfl) (by kernel_rfl) (by rfl) (by first | assumption | decide +kernel) (by decide +kernel) ⟨rfl, rfl, rfl, rfl, rfl, by decide +kernel⟩ ?hw ?hc
  case hw => w_witness2
  case hc =>
    refine L2.walk_ofE (l := PySem.Challenge.rw_heapshares_k06_first_arrivals_and_lost) (n := 63) (k := 11) (x := "script") (CX := L2.CX0) rfl (by decide) (by kernel_rfl) ⟨rfl, by decide, by decide⟩ ?F (fun _ _ _ _ z => z)
    intro w mg fa h Y G hmg0
    obtain ⟨K, KX, c⟩ := Y
    have T := Lw.tx_of (w := w) KX G c
    have Ty := Lw.ty_of (P := (PySem.Challenge.rw_heapshares_k06_first_arrivals_and_lost).prog) (w := w) (by kernel_rfl) (by kernel_rfl) KX G T.f_super c
    have Z := Lw.ex3_of c
    have N := Lw.ne_of_head c
    have hmg : mg ("law" : PySem.Str) = some (.ref fa) := by
      have e : (HandSHeadRun.topDef Lw.R.prog 48).name = ("law" : PySem.Str) := by kernel_rfl
      rw [← e]
      exact hmg0
    have ef : fa = He.ga K "law" := by
      have := hmg.symm.trans T.m_law
      cases this
      rfl
    obtain ⟨fd, F⟩ := T.D_law
    have F2 := F
    rw [show He.fAd K ("law", none) = He.ga K "law" from rfl, ← ef] at F2
    have b := L2.FunD.bindsA (ps := ["script"]) F2 fun _ _ _ _ _ _ us hl => match us, hl with | [_], _ => rfl
    exact ⟨K, fd, Lw.spLaw K, KX, fun s v => b s [v] rfl, fun H a ns hl _ hS => ⟨a, ns, rfl, hS, fun _ => rfl⟩, fun base _ _ => Lw.c_law Ty Z N F2⟩

