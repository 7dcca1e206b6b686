import PyProof.Rows.All
import Wide.All
import OpenK.AllK
import Wide.FinOn
import HandS.ForMost
import HandS.Defaults
import HandS.More
import HandS.IsInst
import HandS.DictComp
import HandS.Zip
import HandS.TupAny
import HandS.Property
import HandS.ExcIs
import HandS.ExcField
import HandS.ExcInit
import HandS.ExcInitHot
import HandS.OwnEq
import HandS.Codes
import HandS.Walk
import HandS.HeadHook1
import HandS.HeadHook2
import KE.GoesMore
import KE.GoesEnum
import PyProof.Draws
import PyProof.EnumMake
import KE.SortData
import KE.KItemsList
import HandS.DictTup
import HandS.ListItems
import KE.KSuper
import KE.KExcSuper
import HandS.Exc
import HandS.Ends
import PyProof.FString
import HandS.ExcCtx
import HandS.HeadHook4
import KE.KIsAll
import HandS.HotCalls
import KE.KEqNest
import PyProof.InstEq
import HandS.Style
import KE.GoesEnumKw
import KE.KIndexOf
import HandS.Replace
import HandS.Head0
import HandS.Head1
import HandS.Head2
import HandS.HeadEnd
import HandS.HeadHook3
import PySem.Challenge.RW_heapshares_k08_written_alike_up_to_addre
set_option Elab.async false
set_option linter.all false
set_option maxRecDepth 100000
set_option maxHeartbeats 0
section
/-! Law-independent layer: calls packed, steps of readings -/
namespace L3
open PySem PySem.Spec PyProof.Rows L2
abbrev St := L2.St
/-! ### calls, packed -/
section
variable (P : Program) (w : World) (K : PySem.W.Frag) (mg : Str → Option Value) (base : Heap) (CX : CXT) (k : Nat)
structure Cal (x : Str) (ps : List Str) (sp : Sp) : Prop where
  ok : ∃ f fd, FnOk P w K mg base CX k f fd ps sp ∧ mg x = some (.ref f) ∧ PySem.W.keepIn K (.ref f) = true ∧ Binds K fd ps []
structure Met (C : Addr) (m : Str) (ps : List Str) (sp : Sp) : Prop where
  ok : ∃ f fd, FnOk P w K mg base CX k f fd ps sp ∧ Meth K C m f ∧ Binds K fd ps []
structure Mak (x : Str) (C : Addr) (ps : List Str) (sp : Sp) : Prop where
  ok : ∃ f fd, FnOk P w K mg base CX k f fd ps sp ∧ Mk K C f ∧ mg x = some (.ref C) ∧ Binds K fd ps []
end
section
variable {X : Cx} {CX : CXT} {k j : Nat} {x m : Str} {C : Addr} {ps : List Str} {sp : Sp} {E : XK} {p pos apos : Pos} {e o : Expr} {es : List Expr} {ta : TE} {t : TA}
theorem pe_cal (c : Cal X.prog X.w X.K X.mg X.base CX k x ps sp) (hr : Room j X.A) (hk : k ≤ j) (hg : Gl X x) (hx : Passes CX X E) (ha : PA X (e :: es) t)
    (hdb : (x == ("__debug__" : Str)) = false := by decide) (he : starEach (e :: es) X.env = (false, eval e X.env) :: starEach es X.env := by rfl) (hpl : (backTo pos (starEach es X.env)).any (·.1) = false := by rfl) :
    PE X (.Call (.Name x p) (e :: es) [] pos) (tCall sp [] E t) := by
  obtain ⟨f, fd, F, hm, kp, hb⟩ := c.ok
  exact pe_call F (hr.mono hk) hg hm kp hb .nil hx ha hdb he hpl
theorem pe_mak (c : Mak X.prog X.w X.K X.mg X.base CX k x C ps sp) (hr : Room j X.A) (hk : k + 1 ≤ j) (hg : Gl X x) (hx : Passes CX X E) (ha : PA X (e :: es) t)
    (hdb : (x == ("__debug__" : Str)) = false := by decide) (he : starEach (e :: es) X.env = (false, eval e X.env) :: starEach es X.env := by rfl) (hpl : (backTo pos (starEach es X.env)).any (·.1) = false := by rfl) :
    PE X (.Call (.Name x p) (e :: es) [] pos) (tMake C sp [] E t) := by
  obtain ⟨f, fd, F, M, hm, hb⟩ := c.ok
  exact pe_make M F (hr.mono hk) hg hm hb .nil hx ha hdb he hpl
theorem pe_met {pl : Sem Bool} (he : PE X o ta) (c : Cls X.K C) (cm : Met X.prog X.w X.K X.mg X.base CX k C m ps sp) (hr : Room j X.A) (hk : k ≤ j) (hx : Passes CX X E) (ha : PA X (e :: es) t)
    (hst : starEach (e :: es) X.env = (false, eval e X.env) :: starEach es X.env := by rfl) (hpl : (backTo pos (starEach es X.env)).any (·.1) = false := by rfl)
    (ht : eval (.Call (.Attribute o m apos) (e :: es) [] pos) X.env = (do
      let ov ← eval o X.env
      standAt apos.atName
      let (f, first) ← holding [ov] (getMethod ov m pl)
      callWith pos f first (backTo pos (starEach (e :: es) X.env)) (backToKw pos (keywordEach [] X.env))) := by rfl) :
    PE X (.Call (.Attribute o m apos) (e :: es) [] pos) (tMeth C m sp [] E ta t) := by
  obtain ⟨f, fd, F, M, hb⟩ := cm.ok
  exact pe_meth he c M F (hr.mono hk) hb .nil hx ha hst hpl ht
end
/-- a built-in type as a value -/
theorem pe_ty {X : Cx} {x : Str} {n : String} {pos : Pos} (hg : Gl X x) (hm : X.mg x = none) (hv : bootBuiltins x = some (.type n)) (hn : x ≠ "__name__" := by decide) (hd : (x == ("__debug__" : Str)) = false := by decide) : PE X (.Name x pos) (tC (.ty n)) := pe_bltn hg hm hv rfl hn hd
/-- a def of the text keeps its promise -/
theorem cal_mk {P : Program} {w : World} {K : PySem.W.Frag} {mg : Str → Option Value} {base : Heap} {CX : CXT} {k : Nat} {x qual : Str} {params : Arguments} {body : List Stmt} {scope : Scope} {N ps : List Str} {sp : Sp} {f : Addr}
    (F : ∃ fd, FunD K x qual params body scope [] [] f fd) (hm : mg x = some (.ref f)) (S : FnScope N ps scope)
    (hb : ∀ (kV doc pm : Value) (an : Option Addr) (cdv ct : Value) (us : List Value), us.length = ps.length → bindArgs (PySem.W.fnOf x qual params body scope .none kV doc pm an cdv ct) ⟨us, []⟩ = pure (ps.zip us))
    (len : ∀ vs H Q E, sp vs H Q E → vs.length = ps.length)
    (hbody : ∀ (f : Addr) (cdv : Value) (A : Around) (outer : List Env) (s : Shared) (H : Hp) (vs : List V) (Q : VK) (E : XK), Room k (A.deeper (envOfC qual scope s.heap.objs.size f cdv)) → sp vs H Q E →
      ∃ t, PSs (cxOf CX P w K mg base N qual scope f cdv A outer s H E).nox body t ∧ t { nx := fun _ H' => Q .non H', rt := Q } (start N vs) H) : Cal P w K mg base CX (k + 1) x ps sp := by
  obtain ⟨fd, F⟩ := F
  exact ⟨f, fd, F.ok S len (fun cdv A outer s H vs Q E hr h => let ⟨t, ht, q⟩ := hbody f cdv A outer s H vs Q E hr h; ⟨t, ht.nox, q⟩), hm, F.kp, F.bindsN hb⟩
/-- .. one that may raise -/
theorem cal_mkX {P : Program} {w : World} {K : PySem.W.Frag} {mg : Str → Option Value} {base : Heap} {CX : CXT} {k : Nat} {x qual : Str} {params : Arguments} {body : List Stmt} {scope : Scope} {N ps : List Str} {sp : Sp} {f : Addr}
    (F : ∃ fd, FunD K x qual params body scope [] [] f fd) (hm : mg x = some (.ref f)) (S : FnScope N ps scope)
    (hb : ∀ (kV doc pm : Value) (an : Option Addr) (cdv ct : Value) (us : List Value), us.length = ps.length → bindArgs (PySem.W.fnOf x qual params body scope .none kV doc pm an cdv ct) ⟨us, []⟩ = pure (ps.zip us))
    (len : ∀ vs H Q E, sp vs H Q E → vs.length = ps.length)
    (hbody : ∀ (f : Addr) (cdv : Value) (A : Around) (outer : List Env) (s : Shared) (H : Hp) (vs : List V) (Q : VK) (E : XK), Room k (A.deeper (envOfC qual scope s.heap.objs.size f cdv)) → sp vs H Q E →
      ∃ t, PSs (cxOf CX P w K mg base N qual scope f cdv A outer s H E) body t ∧ t { nx := fun _ H' => Q .non H', rt := Q } (start N vs) H) : Cal P w K mg base CX (k + 1) x ps sp := by
  obtain ⟨fd, F⟩ := F
  exact ⟨f, fd, F.ok S len (fun cdv A outer s H vs Q E hr h => hbody f cdv A outer s H vs Q E hr h), hm, F.kp, F.bindsN hb⟩
/-- a def of the text keeps its promise -/
theorem met_mk {P : Program} {w : World} {K : PySem.W.Frag} {mg : Str → Option Value} {base : Heap} {CX : CXT} {k : Nat} {x qual : Str} {C : Addr} {params : Arguments} {body : List Stmt} {scope : Scope} {N ps : List Str} {sp : Sp} {f : Addr}
    (F : ∃ fd, FunD K x qual params body scope [] [] f fd) (hm : Meth K C x f) (S : FnScope N ps scope)
    (hb : ∀ (kV doc pm : Value) (an : Option Addr) (cdv ct : Value) (us : List Value), us.length = ps.length → bindArgs (PySem.W.fnOf x qual params body scope .none kV doc pm an cdv ct) ⟨us, []⟩ = pure (ps.zip us))
    (len : ∀ vs H Q E, sp vs H Q E → vs.length = ps.length)
    (hbody : ∀ (f : Addr) (cdv : Value) (A : Around) (outer : List Env) (s : Shared) (H : Hp) (vs : List V) (Q : VK) (E : XK), Room k (A.deeper (envOfC qual scope s.heap.objs.size f cdv)) → sp vs H Q E →
      ∃ t, PSs (cxOf CX P w K mg base N qual scope f cdv A outer s H E).nox body t ∧ t { nx := fun _ H' => Q .non H', rt := Q } (start N vs) H) : Met P w K mg base CX (k + 1) C x ps sp := by
  obtain ⟨fd, F⟩ := F
  exact ⟨f, fd, F.ok S len (fun cdv A outer s H vs Q E hr h => let ⟨t, ht, q⟩ := hbody f cdv A outer s H vs Q E hr h; ⟨t, ht.nox, q⟩), hm, F.bindsN hb⟩
/-- .. one that may raise -/
theorem met_mkX {P : Program} {w : World} {K : PySem.W.Frag} {mg : Str → Option Value} {base : Heap} {CX : CXT} {k : Nat} {x qual : Str} {C : Addr} {params : Arguments} {body : List Stmt} {scope : Scope} {N ps : List Str} {sp : Sp} {f : Addr}
    (F : ∃ fd, FunD K x qual params body scope [] [] f fd) (hm : Meth K C x f) (S : FnScope N ps scope)
    (hb : ∀ (kV doc pm : Value) (an : Option Addr) (cdv ct : Value) (us : List Value), us.length = ps.length → bindArgs (PySem.W.fnOf x qual params body scope .none kV doc pm an cdv ct) ⟨us, []⟩ = pure (ps.zip us))
    (len : ∀ vs H Q E, sp vs H Q E → vs.length = ps.length)
    (hbody : ∀ (f : Addr) (cdv : Value) (A : Around) (outer : List Env) (s : Shared) (H : Hp) (vs : List V) (Q : VK) (E : XK), Room k (A.deeper (envOfC qual scope s.heap.objs.size f cdv)) → sp vs H Q E →
      ∃ t, PSs (cxOf CX P w K mg base N qual scope f cdv A outer s H E) body t ∧ t { nx := fun _ H' => Q .non H', rt := Q } (start N vs) H) : Met P w K mg base CX (k + 1) C x ps sp := by
  obtain ⟨fd, F⟩ := F
  exact ⟨f, fd, F.ok S len (fun cdv A outer s H vs Q E hr h => hbody f cdv A outer s H vs Q E hr h), hm, F.bindsN hb⟩
/-- a def of the text keeps its promise -/
theorem mak_mk {P : Program} {w : World} {K : PySem.W.Frag} {mg : Str → Option Value} {base : Heap} {CX : CXT} {k : Nat} {x xc qual : Str} {C : Addr} {params : Arguments} {body : List Stmt} {scope : Scope} {N ps : List Str} {sp : Sp} {f : Addr}
    (F : ∃ fd, FunD K x qual params body scope [] [] f fd) (hm : Mk K C f) (hc : mg xc = some (.ref C)) (S : FnScope N ps scope)
    (hb : ∀ (kV doc pm : Value) (an : Option Addr) (cdv ct : Value) (us : List Value), us.length = ps.length → bindArgs (PySem.W.fnOf x qual params body scope .none kV doc pm an cdv ct) ⟨us, []⟩ = pure (ps.zip us))
    (len : ∀ vs H Q E, sp vs H Q E → vs.length = ps.length)
    (hbody : ∀ (f : Addr) (cdv : Value) (A : Around) (outer : List Env) (s : Shared) (H : Hp) (vs : List V) (Q : VK) (E : XK), Room k (A.deeper (envOfC qual scope s.heap.objs.size f cdv)) → sp vs H Q E →
      ∃ t, PSs (cxOf CX P w K mg base N qual scope f cdv A outer s H E).nox body t ∧ t { nx := fun _ H' => Q .non H', rt := Q } (start N vs) H) : Mak P w K mg base CX (k + 1) xc C ps sp := by
  obtain ⟨fd, F⟩ := F
  exact ⟨f, fd, F.ok S len (fun cdv A outer s H vs Q E hr h => let ⟨t, ht, q⟩ := hbody f cdv A outer s H vs Q E hr h; ⟨t, ht.nox, q⟩), hm, hc, F.bindsN hb⟩
theorem hu64 {A : Around} {k : Nat} (hr : Room k A) : A.units + 64 < cLine := Nat.lt_of_le_of_lt (Nat.le_refl _) hr.units
/-! ### heaps -/
def Ex (H H' : Hp) : Prop := ∀ a o, H a = some o → H' a = some o
theorem Ex.refl (H : Hp) : Ex H H := fun _ _ h => h
theorem Ex.trans {H H1 H2 : Hp} (a : Ex H H1) (b : Ex H1 H2) : Ex H H2 := fun x o h => b x o (a x o h)
theorem Ex.new {H : Hp} {p : Addr} {o : HO} (h : H p = none) : Ex H (upd H p o) := fun a u e => by
  rw [upd_ne (ne_of_none e h)]
  exact e
theorem Ex.get {H H' : Hp} (e : Ex H H') {a : Addr} {o : HO} (h : H a = some o) : H' a = some o := e a o h
theorem Ex.sqT {K : PySem.W.Frag} {H H' : Hp} (e : Ex H H') {a : Addr} {xs : List V} (h : SqT K H a xs) : SqT K H' a xs := by
  rcases h with (h | ⟨o, h⟩) | h
  · exact .inl (.inl (e _ _ h))
  · exact .inl (.inr ⟨o, e _ _ h⟩)
  · exact .inr h
theorem Ex.sqL {K : PySem.W.Frag} {H H' : Hp} (e : Ex H H') {a : Addr} {xs : List V} (h : SqL K H a xs) : SqL K H' a xs := by
  rcases h with (h | ⟨o, h⟩) | h
  · exact .inl (.inl (e _ _ h))
  · exact .inl (.inr ⟨o, e _ _ h⟩)
  · exact .inr h
theorem Ex.none {H H' : Hp} (e : Ex H H') {a : Addr} (h : H' a = Option.none) : H a = Option.none := by
  cases q : H a with
  | none => rfl
  | some o =>
    rw [e a o q] at h
    cases h
/-- all but what stands at l -/
def ExB (l : Addr) (H H' : Hp) : Prop := ∀ a o, a ≠ l → H a = some o → H' a = some o
theorem ExB.upd {l : Addr} {H : Hp} {o : HO} : ExB l H (upd H l o) := fun a u n e => by rw [upd_ne n]; exact e
theorem ExB.of {l : Addr} {H H' : Hp} (e : Ex H H') : ExB l H H' := fun a o _ h => e a o h
theorem ExB.trans {l : Addr} {H H1 H2 : Hp} (a : ExB l H H1) (b : ExB l H1 H2) : ExB l H H2 := fun x o n h => b x o n (a x o n h)
/-- what stood before l stood -/
theorem ExB.old {l : Addr} {H0 H H' : Hp} (e : Ex H0 H) (n : H0 l = none) (b : ExB l H H') : Ex H0 H' := fun a o h => b a o (ne_of_none h n) (e a o h)
/-! ### built-ins under a name -/
section
variable {X : Cx}
def rLen (K : PySem.W.Frag) : List V → Hp → VK → Prop := fun xs H Q => ∃ p ys, xs = [.ref p] ∧ (SqL K H p ys ∨ SqT K H p ys) ∧ Q (.int ys.length) H
theorem cr_len : CallR X (.builtin "len") (rLen X.K) := call_len_seq
def rLenD : List V → Hp → VK → Prop := fun xs H Q => ∃ a kvs, xs = [V.ref a] ∧ H a = some (.dK kvs) ∧ Q (.int kvs.length) H
theorem cr_lenD : CallR X (.builtin "len") rLenD := call_lenD
def rLenS (K : PySem.W.Frag) : List V → Hp → VK → Prop := fun xs H Q => ∃ x n, xs = [x] ∧ LenV K x H n ∧ Q (.int n) H
theorem cr_lenS : CallR X (.builtin "len") (rLenS X.K) := call_len
def rInt : List V → Hp → VK → Prop := fun xs H Q => (∃ i, xs = [.int i] ∧ Q (.int i) H) ∨ ∃ k, xs = [.bl k] ∧ Q (.int (if k then 1 else 0)) H
theorem cr_int : CallR X (.type "int") rInt := call_int1
def rAbs : List V → Hp → VK → Prop := fun xs H Q => ∃ i, xs = [.int i] ∧ Q (.int (if i < 0 then -i else i)) H
theorem cr_abs : CallR X (.builtin "abs") rAbs := call_abs
def rMax2 : List V → Hp → VK → Prop := fun xs H Q => ∃ i j, xs = [.int i, .int j] ∧ Q (.int (if j > i then j else i)) H
theorem cr_max2 (hc : X.calm = true) : CallR X (.builtin "max") rMax2 := call_max2 hc
def rMin2 : List V → Hp → VK → Prop := fun xs H Q => ∃ i j, xs = [.int i, .int j] ∧ Q (.int (if j < i then j else i)) H
theorem cr_min2 (hc : X.calm = true) : CallR X (.builtin "min") rMin2 := call_min2 hc
def rTupOf (K : PySem.W.Frag) : List V → Hp → VK → Prop := fun xs H Q => ∃ p ys, xs = [.ref p] ∧ ((SqL K H p ys ∧ ∀ l, H l = none → Q (.ref l) (upd H l (.tup ys))) ∨ (SqT K H p ys ∧ Q (.ref p) H))
theorem cr_tupOf : CallR X (.type "tuple") (rTupOf X.K) := call_tuple_of
def rDictOf : List V → Hp → VK → Prop := fun xs H Q => ∃ (a : Addr) (kvs : List (Key × V)), xs = [.ref a] ∧ Rd H a (.dK kvs) ∧ ∀ p, H p = none → Q (.ref p) (upd H p (.dK kvs))
theorem cr_dictOf : CallR X (.type "dict") rDictOf := call_dictD
def rAddI : R2 := rI0 fun i j => .int (i + j)
def rSubI : R2 := rI0 fun i j => .int (i - j)
def rMulI : R2 := rI CMul fun i j => .int (i * j)
def rModI : R2 := rI (fun _ j => 0 < j) fun i j => .int (i % j)
def rDivI : R2 := rI CDiv fun i j => .int (i / j)
def rPowI : R2 := rI CPow fun i j => .int (i ^ j.toNat)
def rLtI : R2 := rI0 fun i j => .bl (decide (i < j))
def rLeI : R2 := rI0 fun i j => .bl (decide (i ≤ j))
def rGtI : R2 := rI0 fun i j => .bl (decide (j < i))
def rGeI : R2 := rI0 fun i j => .bl (decide (j ≤ i))
def rAddS : R2 := fun x y H Q => ∃ i j, x = .str i ∧ y = .str j ∧ i.length + j.length ≤ sizeLine ∧ Q (.str (i ++ j)) H
theorem o_add : OpR X (binaryOp .Add) rAddI := op_add
theorem o_sub : OpR X (binaryOp .Sub) rSubI := op_sub
theorem o_mul : OpR X (binaryOp .Mult) rMulI := op_mul
theorem o_mod : OpR X (binaryOp .Mod) rModI := op_mod
theorem o_fdiv : OpR X (binaryOp .FloorDiv) rDivI := op_fdiv
theorem o_pow : OpR X (binaryOp .Pow) rPowI := op_pow
theorem o_lt : OpR X (compareOp .Lt) rLtI := op_lt
theorem o_le : OpR X (compareOp .LtE) rLeI := op_le
theorem o_gt : OpR X (compareOp .Gt) rGtI := op_gt
theorem o_ge : OpR X (compareOp .GtE) rGeI := op_ge
theorem o_addS : OpR X (binaryOp .Add) rAddS := op_add_str
def rInS : R2 := fun x y H Q => ∃ (c : Nat) (z : Str), x = .str ⟨#[c]⟩ ∧ y = .str z ∧ Q (.bl (decide (c ∈ z.cps.toList))) H
theorem o_inS : OpR X (compareOp .In) rInS := op_in_sign
def rNotInS : R2 := fun x y H Q => ∃ (c : Nat) (z : Str), x = .str ⟨#[c]⟩ ∧ y = .str z ∧ Q (.bl (!decide (c ∈ z.cps.toList))) H
theorem o_notInS : OpR X (compareOp .NotIn) rNotInS := op_notIn_sign
end
/-! ### steps of readings -/
/-- a new object -/
def NewO (Q : VK) (o : HO) (H : Hp) : Prop := ∀ p, H p = none → Q (.ref p) (upd H p o)
section
variable {K : PySem.W.Frag} {σ : L2.St} {H : Hp} {Q : VK} {D : Ends} {v x y : V} {i j : Int} {a p : Addr} {xs : List V}
theorem k_seq {t u : TS} (h : t { D with nx := u D } σ H) : tSeq t u D σ H := h
theorem k_nx (h : D.nx σ H) : tNext D σ H := h
theorem k_var {n : Nat} (h : σ[n]? = some (some v)) (q : Q v H) : tVar n σ H Q := ⟨v, h, q⟩
theorem k_c (q : Q v H) : tC v σ H Q := q
theorem k_op {r : R2} {ta tb : TE} (h : ta σ H fun x H1 => tb σ H1 fun y H2 => r x y H2 Q) : tOp r ta tb σ H Q := h
theorem k_un {r : V → Hp → VK → Prop} {ta : TE} (h : ta σ H fun x H1 => r x H1 Q) : tUn r ta σ H Q := h
theorem k_add (q : Q (.int (i + j)) H) : rAddI (.int i) (.int j) H Q := ⟨i, j, rfl, rfl, q⟩
theorem k_sub (q : Q (.int (i - j)) H) : rSubI (.int i) (.int j) H Q := ⟨i, j, rfl, rfl, q⟩
theorem k_mul (h : CMul i j) (q : Q (.int (i * j)) H) : rMulI (.int i) (.int j) H Q := ⟨i, j, rfl, rfl, h, q⟩
theorem k_mod (h : 0 < j) (q : Q (.int (i % j)) H) : rModI (.int i) (.int j) H Q := ⟨i, j, rfl, rfl, h, q⟩
theorem k_div (h : CDiv i j) (q : Q (.int (i / j)) H) : rDivI (.int i) (.int j) H Q := ⟨i, j, rfl, rfl, h, q⟩
theorem k_pow (h : CPow i j) (q : Q (.int (i ^ j.toNat)) H) : rPowI (.int i) (.int j) H Q := ⟨i, j, rfl, rfl, h, q⟩
theorem k_lt (q : Q (.bl (decide (i < j))) H) : rLtI (.int i) (.int j) H Q := ⟨i, j, rfl, rfl, q⟩
theorem k_le (q : Q (.bl (decide (i ≤ j))) H) : rLeI (.int i) (.int j) H Q := ⟨i, j, rfl, rfl, q⟩
theorem k_gt (q : Q (.bl (decide (j < i))) H) : rGtI (.int i) (.int j) H Q := ⟨i, j, rfl, rfl, q⟩
theorem k_ge (q : Q (.bl (decide (j ≤ i))) H) : rGeI (.int i) (.int j) H Q := ⟨i, j, rfl, rfl, q⟩
theorem k_u {g : Int → V} (q : Q (g i) H) : rU g (.int i) H Q := ⟨i, rfl, q⟩
theorem k_addS {z y : Str} (h : z.length + y.length ≤ sizeLine) (q : Q (.str (z ++ y)) H) : rAddS (.str z) (.str y) H Q := ⟨z, y, rfl, rfl, h, q⟩
theorem k_inS {c : Nat} {z : Str} (q : Q (.bl (decide (c ∈ z.cps.toList))) H) : rInS (.str ⟨#[c]⟩) (.str z) H Q := ⟨c, z, rfl, rfl, q⟩
theorem k_abs (q : Q (.int (if i < 0 then -i else i)) H) : rAbs [.int i] H Q := ⟨i, rfl, q⟩
theorem k_max2 (q : Q (.int (if j > i then j else i)) H) : rMax2 [.int i, .int j] H Q := ⟨i, j, rfl, q⟩
theorem k_min2 (q : Q (.int (if j < i then j else i)) H) : rMin2 [.int i, .int j] H Q := ⟨i, j, rfl, q⟩
theorem k_int (q : Q (.int i) H) : rInt [.int i] H Q := .inl ⟨i, rfl, q⟩
theorem k_intB {b : Bool} (q : Q (.int (if b then 1 else 0)) H) : rInt [.bl b] H Q := .inr ⟨b, rfl, q⟩
theorem k_len (h : SqL K H p xs ∨ SqT K H p xs) (q : Q (.int xs.length) H) : rLen K [.ref p] H Q := ⟨p, xs, rfl, h, q⟩
theorem k_lenD {kvs : List (Key × V)} (h : H p = some (.dK kvs)) (q : Q (.int kvs.length) H) : rLenD [.ref p] H Q := ⟨p, kvs, rfl, h, q⟩
theorem k_lenS {z : Str} (h : z.length ≤ sizeLine) (q : Q (.int z.length) H) : rLenS K [.str z] H Q := ⟨.str z, z.length, rfl, ⟨h, rfl⟩, q⟩
theorem k_tupL (h : SqL K H p xs) (q : ∀ l H1, H l = none → Ex H H1 → H1 l = some (.tup xs) → Q (.ref l) H1) : rTupOf K [.ref p] H Q := ⟨p, xs, rfl, .inl ⟨h, fun l n => q l _ n (Ex.new n) upd_same⟩⟩
theorem k_tupT (h : SqT K H p xs) (q : Q (.ref p) H) : rTupOf K [.ref p] H Q := ⟨p, xs, rfl, .inr ⟨h, q⟩⟩
theorem k_dictOf {kvs : List (Key × V)} (h : Rd H p (.dK kvs)) (q : ∀ l H1, H l = none → Ex H H1 → H1 l = some (.dK kvs) → Q (.ref l) H1) : rDictOf [.ref p] H Q := ⟨p, kvs, rfl, h, fun l n => q l _ n (Ex.new n) upd_same⟩
theorem k_append (h : H p = some (.lst xs)) (hz : xs.length < sizeLine) (q : ∀ H1, ExB p H H1 → H1 p = some (.lst (xs ++ [v])) → Q .non H1) : rAppend (.ref p) [v] H Q := ⟨p, xs, v, rfl, rfl, h, hz, q _ ExB.upd upd_same⟩
theorem k_pop (h : H p = some (.lst xs)) (hl : xs[xs.length - 1]? = some v) (q : ∀ H1, ExB p H H1 → H1 p = some (.lst xs.dropLast) → Q v H1) : rPop (.ref p) [] H Q := ⟨p, xs, v, rfl, rfl, h, hl, q _ ExB.upd upd_same⟩
theorem k_reverse (h : H p = some (.lst xs)) (q : ∀ H1, ExB p H H1 → H1 p = some (.lst xs.reverse) → Q .non H1) : rReverse (.ref p) [] H Q := ⟨p, xs, rfl, rfl, h, q _ ExB.upd upd_same⟩
theorem k_cat {b : Addr} {ys : List V} (h : H p = some (.lst xs)) (h2 : H b = some (.lst ys)) (hz : xs.length + ys.length ≤ sizeLine) (q : ∀ l H1, H l = none → Ex H H1 → H1 l = some (.lst (xs ++ ys)) → Q (.ref l) H1) : rCat (.ref p) (.ref b) H Q :=
  ⟨p, b, xs, ys, rfl, rfl, h, h2, hz, fun l n => q l _ n (Ex.new n) upd_same⟩
theorem k_tyL (h : SqL K H p xs) : tyV K "list" (.ref p) H := .inl ⟨rfl, xs, h⟩
theorem k_tyA {B : Prop} (h : SqL K H p xs) (b : B) : tyV K "list" (.ref p) H ∧ B := ⟨k_tyL h, b⟩
/-- (a, b) = a pair -/
theorem k_gTup {n : Nat} {t : TGs} {R : L2.St → Hp → Prop} (h : SqT K H p xs) (hl : xs.length = n) (q : t xs σ H R) : gTup K n t (.ref p) σ H R := ⟨p, xs, rfl, h, hl, q⟩
theorem k_gCons {t : TG} {u : TGs} {vs : List V} {R : L2.St → Hp → Prop} (h : t v σ H fun σ' H' => u vs σ' H' R) : gCons t u (v :: vs) σ H R := ⟨v, vs, rfl, h⟩
theorem k_gNil {R : L2.St → Hp → Prop} (h : R σ H) : gNil [] σ H R := ⟨rfl, h⟩
theorem k_par {n m : Nat} {ta : TA} (h : ta σ H fun vs H1 => ∃ v w, vs = [v, w] ∧ D.nx ((σ.set n (some v)).set m (some w)) H1) : tPar n m ta D σ H := h
theorem k_parE {R : V → V → Prop} (h : R x y) : ∃ v w, [x, y] = [v, w] ∧ R v w := ⟨x, y, rfl, h⟩
theorem k_in {neg : Bool} (h : SqL K H p xs ∨ SqT K H p xs) (hx : flatV v = true) (ha : xs.all flatV = true) (q : Q (.bl (if neg then !inV v xs else inV v xs)) H) : rIn K neg v (.ref p) H Q := ⟨p, xs, rfl, h, hx, ha, q⟩
theorem k_dnew (q : ∀ l H1, H l = none → Ex H H1 → H1 l = some (.dK []) → Q (.ref l) H1) : tDNewK σ H Q := fun l n => q l _ n (Ex.new n) upd_same
theorem k_dput {td ty tv : TE} (h : tv σ H fun v H1 => td σ H1 fun x H2 => ty σ H2 fun y H3 => ∃ a H4, x = .ref a ∧ DPut H3 a y v H4 ∧ D.nx σ H4) : sDPut td ty tv D σ H := h
theorem k_dputE {kvs : List (Key × V)} {k : Key} {y v : V} {R : Hp → Prop} (hy : y = kV k) (h : H p = some (.dK kvs)) (hz : kvs.length < sizeLine) (q : ∀ H1, ExB p H H1 → H1 p = some (.dK (putK kvs k v)) → R H1) : ∃ a H4, V.ref p = .ref a ∧ DPut H a y v H4 ∧ R H4 := by
  subst hy
  exact ⟨p, _, rfl, DPut.k h hz, q _ ExB.upd upd_same⟩
theorem k_dget {td ty : TE} (h : td σ H fun x H1 => ty σ H1 fun y H2 => ∃ a v, x = .ref a ∧ DGet H2 a y (some v) ∧ Q v H2) : tDGet td ty σ H Q := h
theorem DGet.rd {H : Hp} {a : Addr} {kvs : List (Key × V)} {k : Key} (e : Rd H a (.dK kvs)) : DGet H a (kV k) (valV kvs k) := .inl ⟨kvs, k, e, rfl, rfl⟩
theorem k_dgetE {kvs : List (Key × V)} {k : Key} {y v : V} {R : V → Prop} (hy : y = kV k) (h : Rd H p (.dK kvs)) (hv : valV kvs k = some v) (q : R v) : ∃ a v, V.ref p = .ref a ∧ DGet H a y (some v) ∧ R v := by
  subst hy
  exact ⟨p, v, rfl, by rw [← hv]; exact DGet.rd h, q⟩
theorem k_dget1 {td ty : TE} (h : td σ H fun x H1 => ∃ a, x = .ref a ∧ IsD H1 a ∧ ty σ H1 fun y H2 => ∃ o, DGet H2 a y o ∧ Q (o.getD .non) H2) : tDGet1 td ty σ H Q := h
theorem k_din {td ty : TE} (h : ty σ H fun y H1 => td σ H1 fun x H2 => ∃ a o, x = .ref a ∧ DGet H2 a y o ∧ Q (.bl o.isSome) H2) : tDIn ty td σ H Q := h
theorem k_dnotin {td ty : TE} (h : ty σ H fun y H1 => td σ H1 fun x H2 => ∃ a o, x = .ref a ∧ DGet H2 a y o ∧ Q (.bl (!o.isSome)) H2) : tDNotIn ty td σ H Q := h
theorem k_dinE {kvs : List (Key × V)} {k : Key} {y : V} {R : Option V → Prop} (hy : y = kV k) (h : Rd H p (.dK kvs)) (q : R (valV kvs k)) : ∃ a o, V.ref p = .ref a ∧ DGet H a y o ∧ R o := by
  subst hy
  exact ⟨p, _, rfl, DGet.rd h, q⟩
theorem k_dget1E {kvs : List (Key × V)} {B : Prop} (h : Rd H p (.dK kvs)) (b : B) : IsD H p ∧ B := ⟨.inl ⟨kvs, h⟩, b⟩
theorem k_dpop1 {td ty : TE} (h : td σ H fun x H1 => ∃ a, x = .ref a ∧ IsD H1 a ∧ ty σ H1 fun y H2 => ∃ kvs k v, H2 a = some (.dK kvs) ∧ y = kV k ∧ valV kvs k = some v ∧ Q v (upd H2 a (.dK (dropK kvs k)))) : tDPop1 td ty σ H Q := h
theorem k_slice {r : V → Option Int → Option Int → Hp → VK → Prop} {te : TE} {tl th : TO} (h : te σ H fun x H1 => tl σ H1 fun l H2 => th σ H2 fun u H3 => r x l u H3 Q) : tSl r te tl th σ H Q := h
theorem k_noPart {R : Option Int → Hp → Prop} (q : R none H) : tNoPart σ H R := q
theorem k_part {t : TE} {R : Option Int → Hp → Prop} (h : t σ H fun x H1 => ∃ i, x = .int i ∧ R (some i) H1) : tPart t σ H R := h
theorem k_partE {R : Int → Prop} (h : R i) : ∃ k, V.int i = .int k ∧ R k := ⟨i, rfl, h⟩
theorem k_slL {lo hi : Option Int} (h : SqL K H p xs) (q : ∀ l H1, H l = none → Ex H H1 → H1 l = some (.lst (cutV xs lo hi)) → Q (.ref l) H1) : rSlL K (.ref p) lo hi H Q := ⟨p, xs, rfl, h, fun l n => q l _ n (Ex.new n) upd_same⟩
theorem iteNT {A B : Prop} (h : B) : if (!true) = true then A else B := h
theorem iteNF {A B : Prop} (h : A) : if (!false) = true then A else B := h
theorem iteOn {A B : Prop} (h : B) : if (none : Option V).isSome = true then A else B := h
theorem iteOs {v : V} {A B : Prop} (h : A) : if (some v : Option V).isSome = true then A else B := h
theorem iteNOn {A B : Prop} (h : A) : if (!(none : Option V).isSome) = true then A else B := h
theorem iteNOs {v : V} {A B : Prop} (h : B) : if (!(some v : Option V).isSome) = true then A else B := h
/-- what a for asks -/
def ForK (J : It) (g : TG) (tb : TS) (D : Ends) (σ : L2.St) (H1 : Hp) : Prop := ∃ W : Nat → Nat → L2.St → Hp → Prop, (∃ m, W 0 m σ H1) ∧ ∀ i m σ H, W i m σ H →
  (J.stop i H ∧ D.nx σ H) ∨ (J.go i H ∧ ∃ N : L2.St → Hp → Prop, (∀ σ' H', N σ' H' → ∃ m', m' < m ∧ W (i + 1) m' σ' H') ∧ ∀ x H', J.yld i H x H' → g x σ H' fun σ2 H2 => tb { D with nx := N, ct := N, bk := D.nx } σ2 H2)
theorem k_for {wi : TI} {g : TG} {tb : TS} (h : wi σ H fun J H1 => ForK J g tb D σ H1) : tFor wi g tb D σ H := h
theorem k_rng1 {ta : TA} {R : It → Hp → Prop} (h : ta σ H fun vs H1 => ∃ j : Int, vs = [.int j] ∧ -(2 ^ 62) ≤ j ∧ j < 2 ^ 62 ∧ R (Itr 0 j.toNat) H1) : iRng1 ta σ H R := h
theorem k_rng1E {R : Int → Prop} (h1 : -(2 ^ 62) ≤ i) (h2 : i < 2 ^ 62) (h : R i) : ∃ j : Int, [V.int i] = [.int j] ∧ -(2 ^ 62) ≤ j ∧ j < 2 ^ 62 ∧ R j := ⟨i, rfl, h1, h2, h⟩
theorem k_iList {tl : TE} {R : It → Hp → Prop} (h : tl σ H fun x H1 => ∃ a, x = .ref a ∧ (∃ xs, SqL K H1 a xs) ∧ R (Itl K a) H1) : iList K tl σ H R := h
theorem k_iListE {R : Addr → Prop} (h : SqL K H p xs) (q : R p) : ∃ a, V.ref p = .ref a ∧ (∃ xs, SqL K H a xs) ∧ R a := ⟨p, rfl, ⟨xs, h⟩, q⟩
theorem k_iTup {tl : TE} {R : It → Hp → Prop} (h : tl σ H fun x H1 => ∃ a, x = .ref a ∧ (∃ xs, SqT K H1 a xs) ∧ R (Itt K a) H1) : iTup K tl σ H R := h
theorem k_iTupE {R : Addr → Prop} (h : SqT K H p xs) (q : R p) : ∃ a, V.ref p = .ref a ∧ (∃ xs, SqT K H a xs) ∧ R a := ⟨p, rfl, ⟨xs, h⟩, q⟩
theorem k_zip {ta : TA} {R : It → Hp → Prop} (h : ta σ H fun vs H1 => ∃ a b xs ys, vs = [.ref a, .ref b] ∧ ((SqL K H1 a xs ∧ SqL K H1 b ys ∧ R (Itz K a b) H1) ∨ (SqT K H1 a xs ∧ SqT K H1 b ys ∧ R (RZ.ItzT K a b) H1))) : RZ.iZipA K ta σ H R := h
theorem k_isi {x : V} {tn cn : String} {b : Bool} (ty : TyX K H x (.type tn)) (e : kitB tn cn = some b) (q : Q (.bl b) H) : rIsi K [x, .ty cn] H Q := ⟨x, .ty cn, _, _, b, rfl, .ty cn, ty, kit_ty e, q⟩
theorem tyX_L (h : SqL K H p xs) : TyX K H (.ref p) (.type "list") := by
  rcases h with (h | ⟨o, h⟩) | ⟨o, its, n, h, c, _⟩
  · exact .base (.lst h)
  · exact .base (.frz h)
  · exact .kList h c
theorem tyX_T (h : SqT K H p xs) : TyX K H (.ref p) (.type "tuple") := by
  rcases h with (h | ⟨o, h⟩) | ⟨o, its, n, h, c, _⟩
  · exact .base (.tup h)
  · exact .fTuple h
  · exact .kTuple h c
/-! data as trees -/
mutual
theorem Dp_ex {H H' : Hp} (e : Ex H H') : ∀ (d : PyData) (v : V), Dp K H v d → Dp K H' v d
  | .none, _, h => by cases h; exact .non
  | .bool b, _, h => by cases h; exact .bl b
  | .int i, _, h => by cases h; exact .int i
  | .str x, _, h => by cases h; exact .str x
  | .list ds, _, h => by
    cases h with
    | lst hs ha => exact .lst (e.sqL hs) (DpAll_ex e ds _ ha)
  | .tuple ds, _, h => by
    cases h with
    | tup hs ha => exact .tup (e.sqT hs) (DpAll_ex e ds _ ha)
  | .dict _, _, h => by cases h
theorem DpAll_ex {H H' : Hp} (e : Ex H H') : ∀ (ds : List PyData) (vs : List V), DpAll K H vs ds → DpAll K H' vs ds
  | [], _, h => by cases h; exact .nil
  | d :: ds, _, h => by
    cases h with
    | cons h1 h2 => exact .cons (Dp_ex e d _ h1) (DpAll_ex e ds _ h2)
end
theorem DpAll.length {H : Hp} : ∀ {vs : List V} {ds : List PyData}, DpAll K H vs ds → vs.length = ds.length
  | _, _, .nil => rfl
  | _, _, .cons _ t => congrArg (· + 1) (DpAll.length t)
theorem DpAll.get {H : Hp} : ∀ {vs : List V} {ds : List PyData}, DpAll K H vs ds → ∀ {n : Nat} {v : V}, vs[n]? = some v → ∃ d, ds[n]? = some d ∧ Dp K H v d
  | _, _, .nil, n, v, h => by simp at h
  | _, _, .cons a t, 0, v, h => by
    simp at h
    subst h
    exact ⟨_, rfl, a⟩
  | _, _, .cons a t, n + 1, v, h => by
    obtain ⟨d, h1, h2⟩ := DpAll.get t (n := n) (by simpa using h)
    exact ⟨d, by simpa using h1, h2⟩
mutual
/-- how many nodes -/
def wt : PyData → Nat
  | .list ds => 1 + wts ds
  | .tuple ds => 1 + wts ds
  | _ => 1
def wts : List PyData → Nat
  | [] => 0
  | d :: ds => wt d + wts ds
end
theorem wt_pos (d : PyData) : 1 ≤ wt d := by
  cases d <;> simp [wt]
theorem wts_app (a b : List PyData) : wts (a ++ b) = wts a + wts b := by
  induction a with
  | nil => simp [wts]
  | cons d ds ih => simp [wts, ih, Nat.add_assoc]
theorem wts_ge (a : List PyData) : a.length ≤ wts a := by
  induction a with
  | nil => simp [wts]
  | cons d ds ih =>
    have := wt_pos d
    simp [wts]
    omega
theorem k_yes {R : Bool → Hp → Prop} (q : R true H) : tYes σ H R := q
theorem k_retN (q : D.rt .non H) : tRetN D σ H := q
theorem k_brk (q : D.bk σ H) : tBreak D σ H := q
theorem k_eq (h : scal x y = true) (q : Q (.bl (decide (x = y))) H) : rEq x y H Q := ⟨h, q⟩
theorem k_ne (h : scal x y = true) (q : Q (.bl (!decide (x = y))) H) : rNe x y H Q := ⟨h, q⟩
theorem k_isN {ta : TE} (h : ta σ H fun x H1 => Q (.bl (decide (x = .non))) H1) : tIsN ta σ H Q := h
theorem k_notN {ta : TE} (h : ta σ H fun x H1 => Q (.bl (!decide (x = .non))) H1) : tNotN ta σ H Q := h
theorem k_ixL (h : SqL K H p xs) (hi : atI xs i = some v) (q : Q v H) : rIxL K (.ref p) (.int i) H Q := ⟨p, xs, i, v, rfl, rfl, h, hi, q⟩
theorem k_ixT (h : SqT K H p xs) (hi : atI xs i = some v) (q : Q v H) : rIxT K (.ref p) (.int i) H Q := ⟨p, xs, i, v, rfl, rfl, h, hi, q⟩
theorem k_asg {te : TE} {g : TG} (h : te σ H fun x H1 => g x σ H1 D.nx) : tAsg te g D σ H := h
theorem k_name {n : Nat} {R : L2.St → Hp → Prop} (q : R (σ.set n (some v)) H) : gName n v σ H R := q
theorem k_ret {te : TE} (h : te σ H D.rt) : tRet te D σ H := h
theorem k_drop {te : TE} (h : te σ H fun _ H1 => D.nx σ H1) : tDrop te D σ H := h
theorem k_if {c : TT} {t u : TS} (h : c σ H fun b H1 => if b = true then t D σ H1 else u D σ H1) : tIfS c t u D σ H := h
theorem k_ifE {c : TT} {ta tb : TE} (h : c σ H fun b H1 => if b = true then ta σ H1 Q else tb σ H1 Q) : tIf c ta tb σ H Q := h
theorem k_test {te : TE} {R : Bool → Hp → Prop} (h : te σ H fun x H' => ∃ k, x = .bl k ∧ R k H') : tTest te σ H R := h
theorem k_tb {te : TE} {R : Bool → Hp → Prop} (h : te σ H fun x H' => ∃ k, x = .bl k ∧ R k H') : tB te σ H R := h
theorem k_bl {b : Bool} {R : Bool → Prop} (q : R b) : ∃ k, V.bl b = .bl k ∧ R k := ⟨b, rfl, q⟩
theorem k_and {t u : TT} {R : Bool → Hp → Prop} (h : t σ H fun c H1 => if c = true then u σ H1 R else R false H1) : tAnd t u σ H R := h
theorem k_or {t u : TT} {R : Bool → Hp → Prop} (h : t σ H fun c H1 => if c = true then R true H1 else u σ H1 R) : tOr t u σ H R := h
theorem k_not {t : TT} {R : Bool → Hp → Prop} (h : t σ H fun c H1 => R (!c) H1) : tNot t σ H R := h
theorem k_chain {r r' : R2} {ta tb tc : TE} (h : ta σ H fun x H1 => tb σ H1 fun y H2 => r x y H2 fun z H3 => ∃ k, z = .bl k ∧ (if k = true then tc σ H3 fun w' H4 => r' y w' H4 Q else Q (.bl false) H3)) : tChain r r' ta tb tc σ H Q := h
theorem k_iStr {te : TE} {R : It → Hp → Prop} (h : te σ H fun v H1 => ∃ x, v = .str x ∧ R (Its x) H1) : iStr te σ H R := h
theorem k_iStrE {z : Str} {R : Str → Prop} (q : R z) : ∃ x, V.str z = .str x ∧ R x := ⟨z, rfl, q⟩
theorem k_andV {ta tb : TE} (h : ta σ H fun x H1 => ∃ c, x = .bl c ∧ if c = true then tb σ H1 Q else Q (.bl false) H1) : tAndV ta tb σ H Q := h
theorem k_orV {ta tb : TE} (h : ta σ H fun x H1 => ∃ c, x = .bl c ∧ if c = true then Q (.bl true) H1 else tb σ H1 Q) : tOrV ta tb σ H Q := h
theorem k_notV {ta : TE} (h : ta σ H fun x H1 => ∃ c, x = .bl c ∧ Q (.bl (!c)) H1) : tNotV ta σ H Q := h
theorem k_nil {R : List V → Hp → Prop} (q : R [] H) : tNil σ H R := q
theorem k_cons {ta : TE} {tr : TA} {R : List V → Hp → Prop} (h : ta σ H fun x H1 => tr σ H1 fun xs H2 => R (x :: xs) H2) : tCons ta tr σ H R := h
theorem k_cb {r : List V → Hp → VK → Prop} {t : TA} (h : t σ H fun vs H1 => r vs H1 Q) : tCB r t σ H Q := h
theorem k_call {sp : Sp} {E : XK} {t : TA} (h : t σ H fun vs H1 => sp (vs ++ []) H1 Q E) : tCall sp [] E t σ H Q := h
theorem k_tup {t : TA} (h : t σ H fun vs H1 => vs.length ≤ sizeLine ∧ NewO Q (.tup vs) H1) : tTup t σ H Q := h
theorem k_lst {t : TA} (h : t σ H fun vs H1 => vs.length ≤ sizeLine ∧ NewO Q (.lst vs) H1) : tLst t σ H Q := h
theorem k_new {o : HO} {c : Prop} (hz : c) (h : ∀ p H1, H p = none → Ex H H1 → H1 p = some o → Q (.ref p) H1) : c ∧ NewO Q o H := ⟨hz, fun p n => h p _ n (Ex.new n) upd_same⟩
theorem k_fld {ta : TE} {f : Str} (h : ta σ H fun x H1 => ∃ a C dx fs v, x = .ref a ∧ H1 a = some (.ins C dx fs) ∧ Cls K C ∧ NoAttr K C f ∧ fs.lookup f = some v ∧ Q v H1) : tFld K ta f σ H Q := h
theorem k_iteT {A B : Prop} {c : Prop} [Decidable c] (hc : c) (h : A) : if decide c = true then A else B := by rw [if_pos (decide_eq_true hc)]; exact h
theorem k_iteF {A B : Prop} {c : Prop} [Decidable c] (hc : ¬ c) (h : B) : if decide c = true then A else B := by rw [if_neg (by rw [decide_eq_false hc]; decide)]; exact h
theorem k_bm {T : String} {r : V → List V → Hp → VK → Prop} {to : TE} {t : TA} (h : to σ H fun x H1 => tyV K T x H1 ∧ t σ H1 fun xs H2 => r x xs H2 Q) : tBM K T r to t σ H Q := h
theorem k_bm0 {T : String} {r : V → List V → Hp → VK → Prop} {to : TE} (h : to σ H fun x H1 => tyV K T x H1 ∧ r x [] H1 Q) : tBM0 K T r to σ H Q := h
theorem k_gsub {to ti : TE} {t : TSet} {R : L2.St → Hp → Prop} (h : to σ H fun o H1 => ti σ H1 fun i H2 => t o i v H2 fun H3 => R σ H3) : gSub to ti t v σ H R := h
theorem k_setL {R : Hp → Prop} {n : Nat} (h : H p = some (.lst xs)) (hj : ixN xs.length i = some n) (q : R (upd H p (.lst (xs.set n v)))) : rSetL (.ref p) (.int i) v H R := ⟨p, xs, i, n, rfl, rfl, h, hj, q⟩
theorem atI_zero {α : Type} {x : α} {xs : List α} : atI (x :: xs) (0 : Int) = some x := by
  unfold atI ixN
  simp
theorem atI_of {α : Type} {xs : List α} {i : Int} {v : α} (h0 : 0 ≤ i) (h : xs[i.toNat]? = some v) : atI xs i = some v := by
  have hl : i.toNat < xs.length := (List.getElem?_eq_some_iff.mp h).1
  unfold atI ixN
  rw [if_pos h0, if_pos (by omega)]
  exact h
theorem ixN_of {n : Nat} {i : Int} (h0 : 0 ≤ i) (h : i < n) : ixN n i = some i.toNat := by
  unfold ixN
  rw [if_pos h0, if_pos h]
theorem ixN_zero {n : Nat} (h : 0 < n) : ixN n 0 = some 0 := ixN_of (by decide) (by omega)
end
/-! ### comprehensions -/
/-- what a comprehension asks -/
def LcK (J : It) (g : TG) (tt : TT) (te : TE) (vs : List Nat) (σ : L2.St) (Q : VK) (H1 : Hp) : Prop := ∀ D, H1 D = none → ∃ W : Nat → Nat → Hp → Prop, (∃ m, W 0 m (upd H1 D (.lst []))) ∧ ∀ i m H, W i m H →
      (J.stop i H ∧ Q (.ref D) H) ∨ (J.go i H ∧ ∃ Nx : Hp → Prop, (∀ H', Nx H' → ∃ m', m' < m ∧ W (i + 1) m' H') ∧ ∀ x H', J.yld i H x H' → g x (wipe σ vs) H' fun σ2 H2 => wipe σ2 vs = wipe σ vs ∧ tt σ2 H2 fun b H3 =>
        if b = true then te σ2 H3 fun y H4 => ∃ acc, H4 D = some (.lst acc) ∧ acc.length < sizeLine ∧ Nx (upd H4 D (.lst (acc ++ [y]))) else Nx H3)
/-- all that is no list is kept -/
def ExT (H H' : Hp) : Prop := ∀ a o, (∀ l, o ≠ .lst l) → H a = some o → H' a = some o
theorem Ex.t {H H' : Hp} (e : Ex H H') : ExT H H' := fun a o _ h => e a o h
theorem ExT.refl (H : Hp) : ExT H H := fun _ _ _ h => h
theorem ExT.trans {H H1 H2 : Hp} (a : ExT H H1) (b : ExT H1 H2) : ExT H H2 := fun x o n h => b x o n (a x o n h)
theorem ExT.upd {H : Hp} {D : Addr} {xs ys : List V} (h : H D = some (.lst xs)) : ExT H (upd H D (.lst ys)) := fun a o n e => by
  rw [upd_ne fun z => n xs (by rw [z, h] at e; exact (Option.some.inj e).symm)]
  exact e
theorem ExB.t {H H' : Hp} {l : Addr} {xs : List V} (b : ExB l H H') (h : H l = some (.lst xs)) : ExT H H' := fun a o n e => b a o (fun z => n xs (by rw [z, h] at e; exact (Option.some.inj e).symm)) e
theorem Paired.snoc' {α β : Type} {F : α → β → Prop} {x : α} {y : β} (h : F x y) : ∀ {l : List α} {m : List β}, Paired F l m → Paired F (l ++ [x]) (m ++ [y])
  | _, _, .nil => .cons h .nil
  | _, _, .cons r t => .cons r (Paired.snoc' h t)
section
variable {J : It} {n : Nat} {G : Hp → Prop} {Y : Nat → Hp → V → Hp → Prop} {g : TG} {tt : TT} {te : TE} {vs : List Nat} {σ : L2.St} {H1 : Hp} {Q : VK}
theorem lc_rel (w : Walk J n G Y) (sel : Nat → Bool) (Rel : Nat → V → Hp → Prop) (hz : n ≤ 100000) (hst : ∀ i y H H', ExT H H' → Rel i y H → Rel i y H') (hG : ∀ H', Ex H1 H' → G H')
    (hs : ∀ i x H' H'' (R1 : V → Hp → Prop) (R0 : Hp → Prop), i < n → Ex H1 H' → Y i H' x H'' → (∀ y H4, Ex H' H4 → sel i = true → Rel i y H4 → R1 y H4) → (∀ H3, Ex H' H3 → sel i = false → R0 H3) →
      g x (wipe σ vs) H'' fun σ2 H2 => wipe σ2 vs = wipe σ vs ∧ tt σ2 H2 fun b H3 => if b = true then te σ2 H3 R1 else R0 H3)
    (hd : ∀ D H' ys, H1 D = none → Ex H1 H' → H' D = some (.lst ys) → Paired (fun i y => Rel i y H') ((List.range n).filter sel) ys → Q (.ref D) H') :
    LcK J g tt te vs σ Q H1 := by
  intro D hD
  refine lc_it w (fun i H' => ∃ ys, Ex H1 H' ∧ H' D = some (.lst ys) ∧ Paired (fun i y => Rel i y H') ((List.range i).filter sel) ys) ⟨[], Ex.new hD, upd_same, .nil⟩ (fun i H' _ ⟨_, e, _⟩ => hG H' e) (fun i x H' H'' hi ⟨ys, e, hL, pr⟩ y => ?_) fun H' ⟨ys, e, hL, pr⟩ => hd D H' ys hD e hL pr
  have len : ys.length ≤ i := by
    have z := Paired.length pr
    have z2 := List.length_filter_le sel (List.range i)
    rw [List.length_range] at z2
    omega
  refine hs i x H' H'' _ _ hi e y (fun v H4 e4 hsel r => ?_) fun H3 e3 hsel => ?_
  · have hL4 := e4 _ _ hL
    have tt4 : ExT H4 (upd H4 D (.lst (ys ++ [v]))) := ExT.upd hL4
    refine ⟨ys, hL4, Nat.lt_of_le_of_lt (Nat.le_trans len (Nat.le_trans (Nat.le_of_lt hi) hz)) (by rw [sizeLine_eq]; decide), ys ++ [v], ?_, upd_same, ?_⟩
    · exact ExB.old (e.trans e4) hD ExB.upd
    · rw [List.range_succ, List.filter_append, List.filter_cons, if_pos hsel]
      exact Paired.snoc' (F := fun i y => Rel i y (upd H4 D (.lst (ys ++ [v])))) (hst _ _ _ _ tt4 r) (Paired.mapP (F := fun i y => Rel i y H') (G := fun i y => Rel i y (upd H4 D (.lst (ys ++ [v])))) pr fun a b z => hst a b H' _ (e4.t.trans tt4) z)
  · refine ⟨ys, e.trans e3, e3 _ _ hL, ?_⟩
    rw [List.range_succ, List.filter_append, List.filter_cons, if_neg (by rw [hsel]; decide)]
    show Paired _ (_ ++ []) _
    rw [List.append_nil]
    exact Paired.mapP (F := fun i y => Rel i y H') (G := fun i y => Rel i y H3) pr fun a b z => hst a b H' _ e3.t z
theorem Paired.get' {α β : Type} {F : α → β → Prop} : ∀ {l : List α} {m : List β}, Paired F l m → ∀ {i : Nat} {x : α}, l[i]? = some x → ∃ y, m[i]? = some y ∧ F x y
  | _, _, .nil, i, x, h => by simp at h
  | _, _, .cons r t, 0, x, h => ⟨_, rfl, by simp at h; rw [← h]; exact r⟩
  | _, _, .cons r t, i + 1, x, h => by
    obtain ⟨y, a, b⟩ := Paired.get' t (i := i) (by simpa using h)
    exact ⟨y, by simpa using a, b⟩
/-- told place by place -/
theorem Paired.eq_of {F : Nat → V → Prop} {n : Nat} {ys zs : List V} (pr : Paired F (List.range n) ys) (hz : zs.length = n) (h : ∀ i y, i < n → F i y → zs[i]? = some y) : ys = zs := by
  have hl := Paired.length pr
  rw [List.length_range] at hl
  refine List.ext_getElem? fun j => ?_
  by_cases hj : j < n
  · obtain ⟨y, e, f⟩ := Paired.get' pr (i := j) (x := j) (by rw [List.getElem?_range hj])
    rw [e, h j y hj f]
  · rw [List.getElem?_eq_none (by omega), List.getElem?_eq_none (by omega)]
theorem filter_true (l : List Nat) : l.filter (fun _ => true) = l := by simp
theorem Paired.vals {f : Nat → V} : ∀ {is : List Nat} {ys : List V}, Paired (fun i y => y = f i) is ys → ys = is.map f
  | _, _, .nil => rfl
  | _, _, .cons r t => by rw [r, Paired.vals t]; rfl
theorem k_lc {wi : TI} {H : Hp} (h : wi σ H fun J H1 => LcK J g tt te vs σ Q H1) : tLc wi g tt te vs σ H Q := h
end
end L3
end

section
/-! Law-independent layer 2: enumerate over tuples -/
namespace L3
open PySem PySem.Spec PyProof.Rows L2
open Sem (wp)
open AutoSeq1 (wpAny_loadPart')
theorem meets_enumerate_newT (l : Addr) (items : Array Value) (n : Nat) (dct : Option Addr) (sl : Array (Option Value)) :
    Meets (Builtin.«enumerate.__new__» ⟨[.type "enumerate", .ref l], []⟩) (fun _ R s => s.heap.get? l = some { cls := .type "tuple", dict := dct, data := .seq items n, slots := sl } ∧
      R (.ok (.ret (.ref (s.heap.push { cls := .type "tuple_iterator", data := .fields #[.ref l, .int 0 0] }).objs.size)))
        { s with heap := (s.heap.push { cls := .type "tuple_iterator", data := .fields #[.ref l, .int 0 0] }).push { cls := .type "enumerate", data := .fields #[.none, .bool false, .ref s.heap.objs.size, rawInt 0, .none, .none] } }) :=
  .of_wp fun prog w A R s h => by
    obtain ⟨hp, g, d, tk, os⟩ := s; obtain ⟨hl, h⟩ := h
    have hsub := sub_enumerate
    have hL : Heap.IsTuple (Shared.heap ⟨hp, g, d, tk, os⟩) l items := ⟨_, hl, rfl, n, rfl⟩
    wp_walk using wpAny_loadPart' hl
    refine wpAny_stack_any fun st => wpAny_pure ?_
    split
    · rename_i c _ _ _ _ _
      cases (c == Value.type "enumerate")
      · wp_walk using wpAny_loadPart' hl, wpAny_pyIter_tuple hL
        exact ⟨_, rfl, h⟩
      · wp_walk using wpAny_loadPart' hl, wpAny_pyIter_tuple hL
        exact ⟨_, rfl, h⟩
    · wp_walk using wpAny_loadPart' hl, wpAny_pyIter_tuple hL
      exact ⟨_, rfl, h⟩
theorem call_enumerate_tuple {prog : Program} {w : World} {A : Around} {E : Value → Shared → Prop} {s : Shared} {l : Addr} {items : Array Value} {Q : Value → Shared → Prop} (hL : s.heap.IsTuple l items)
    (h : ∀ h', IsEnum h' (s.heap.objs.size + 1) s.heap.objs.size 0 .none → h'.IsTupleIter s.heap.objs.size l 0 → h'.objs.size = s.heap.objs.size + 2 →
      (∀ b o, s.heap.get? b = some o → h'.get? b = some o) → Q (.ref (s.heap.objs.size + 1)) { s with heap := h' }) :
    wpAny (model prog w) A (call (.type "enumerate") [.ref l]) Q E s := by
  obtain ⟨⟨c, dct, dt, sl⟩, hl, hc, n, hd⟩ := hL
  replace hc : c = .type "tuple" := hc
  replace hd : dt = .seq items n := hd
  subst hc hd
  refine callType_new F.called_enumerate (by decide) (F.typeCall_enumerate_1 _) (F.newCall_enumerate_1 _) (fun obj => F.args_object_init_2 obj _) F.entry_enumerate_new
    (meets_enumerate_newT l items n dct sl) ⟨hl, ?_⟩
  have hz : (s.heap.push { cls := .type "tuple_iterator", data := .fields #[.ref l, .int 0 0] }).objs.size = s.heap.objs.size + 1 := Heap.size_push ..
  show _ ∧ _
  rw [hz]
  have he : IsEnum ((s.heap.push { cls := .type "tuple_iterator", data := .fields #[.ref l, .int 0 0] }).push
      { cls := .type "enumerate", data := .fields #[.none, .bool false, .ref s.heap.objs.size, rawInt 0, .none, .none] }) (s.heap.objs.size + 1) s.heap.objs.size 0 .none := by
    have := Heap.get?_push_size (s.heap.push { cls := .type "tuple_iterator", data := .fields #[.ref l, .int 0 0] })
      (o := { cls := .type "enumerate", data := .fields #[.none, .bool false, .ref s.heap.objs.size, rawInt 0, .none, .none] }) rfl
    rw [hz] at this; exact this
  refine ⟨⟨_, he, rfl⟩, h _ he ⟨_, Heap.get?_push_of_some _ (Heap.get?_push_size _ rfl), rfl, rfl⟩ (by rw [Heap.size_push, hz]) fun b o x => Heap.get?_push_of_some _ (Heap.get?_push_of_some _ x)⟩
/-- the tuple at a, each item in a new pair -/
def IteT (K : PySem.W.Frag) (a : Addr) : It :=
  ⟨fun i H => ∃ (xs : List V) (x : V), SqT K H a xs ∧ xs[i]? = some x, fun i H v H' => ∃ T x, v = .ref T ∧ H T = none ∧ H' = upd H T (.tup [.int (i : Nat), x]) ∧ ∀ xs, SqT K H a xs → xs[i]? = some x, fun i H => ∃ xs : List V, SqT K H a xs ∧ xs.length = i⟩
theorem turn_enumT {P : Program} {w : World} {K : PySem.W.Frag} {elts : List Expr} {kk : Nat} {tpos : Pos} (a e it : Addr) :
    Turn P w K (.Tuple elts kk tpos) (IteT K a) [e, it] e (fun i h => (∃ old, IsEnum h e it ((i : Nat) : Int) old) ∧ h.IsTupleIter it a i ∧ e ≠ it) where
  mem := by simp
  obj := fun i h st b hb => by
    obtain ⟨⟨old, he⟩, ⟨o, ho, hc, hd⟩, _⟩ := st
    have e' : b = e ∨ b = it := by simpa using hb
    rcases e' with z | z
    · rw [z]; exact ⟨_, he, fun v q => nomatch q⟩
    · rw [z]; exact ⟨o, ho, fun v q => by rw [hd] at q; cases q⟩
  keep := fun i h h' st k => let ⟨⟨old, he⟩, hi, hne⟩ := st; ⟨⟨old, k e (by simp) _ he⟩, hi.at fun o q => k it (by simp) o q, hne⟩
  item := by
    intro X hP hw hK hc i pins s σ H E I hf st hg
    subst hP hw hK
    obtain ⟨⟨old, he⟩, hit, hne⟩ := st
    obtain ⟨xs, x, hq, hx⟩ := hg
    obtain ⟨its, rv, p, hz⟩ := I.tuple hq
    have hT0 : s.heap.IsTuple a its.toArray := p
    obtain ⟨u, hu, ru⟩ := rv.get hx
    have hel : e < s.heap.objs.size := Heap.lt_size he
    have hil : it < s.heap.objs.size := by obtain ⟨_, q, _⟩ := hit; exact Heap.lt_size q
    have hai : a ≠ it := fun z => by
      obtain ⟨o, ho, hc1, _⟩ := id hT0
      obtain ⟨o2, ho2, hc2, _⟩ := id hit
      rw [z] at ho
      obtain rfl := Option.some.inj (ho.symm.trans ho2)
      rw [hc1] at hc2
      simp at hc2
    have hea : e ≠ a := fun z => by
      obtain ⟨o, ho, hc1, _⟩ := id hT0
      have he' := he
      rw [z] at he'
      obtain rfl := Option.some.inj (ho.symm.trans he')
      simp at hc1
    have hlen := rv.length
    have hxl : i < xs.length := (List.getElem?_eq_some_iff.mp hx).1
    refine wpAny_pyNext_enum_itemD (Draws.tuple (show X.A.in1.handled = none from I.ok.hd hc) it a hai its.toArray) he ⟨hit, hT0⟩ (by simp; omega) hne (by simp [hne, hea]) fun y h' tk hy ho hit' hT hsz hk => ?_
    have ey : y = u := by
      simp at hy
      rw [hu] at hy
      exact (Option.some.inj hy).symm
    subst ey
    refine ⟨_, rfl, wpAny_letOwnedTupleGo_enum (s := { s with heap := h', toks := tk + 1 }) ho fun h'' he' sb => ?_⟩
    have hT2 : h''.get? s.heap.objs.size = some { cls := .type "tuple", data := .seq #[.int i tk, y] } := (sb.2 _ (Nat.ne_of_gt hel)).trans hT
    have new : ObjOk X.prog X.w (upd H s.heap.objs.size (.tup [.int (i : Nat), x])) h'' s.heap.objs.size (.tup [.int (i : Nat), x]) :=
      ⟨by show 2 ≤ sizeLine; decide, [.int i tk, y], .cons ⟨_, rfl⟩ (.cons ru .nil), ⟨_, hT2, rfl, _, rfl⟩⟩
    have I1 : Inv X pins σ (upd H s.heap.objs.size (.tup [.int (i : Nat), x])) { s with heap := h'', toks := tk + 1 } :=
      I.turnedNew (ch := [e, it]) (fun b ob hb q => (sb.2 b (fun z => hb (by simp [z]))).trans (hk b ob (fun z => hb (by simp [z])) (fun z => hb (by simp [z])) q)) hf (Nat.le_refl _) new
    refine ⟨.ref s.heap.objs.size, _, I1, rfl, ⟨_, x, rfl, I.hok.fresh (Nat.le_refl _), rfl, fun ys hy => by rw [I.tuple_inj hy hq]; exact hx⟩, ⟨⟨y, ?_⟩, hit'.1.at fun o q => (sb.2 it (Ne.symm hne)).trans q, hne⟩, fun b hb => ?_⟩
    · have e1 : ((i + 1 : Nat) : Int) = (i : Int) + 1 := by omega
      rw [e1]; exact he'
    · have hb' : b < s.heap.objs.size := by
        have e' : b = e ∨ b = it := by simpa using hb
        rcases e' with z | z
        · rw [z]; exact hel
        · rw [z]; exact hil
      rw [upd_ne (Nat.ne_of_lt hb')]
      exact (hf b hb).1
  done := by
    intro X hP hw hK hc i pins s σ H E I hf st hg
    subst hP hw hK
    obtain ⟨⟨old, he⟩, hit, hne⟩ := st
    obtain ⟨xs, hq, hx⟩ := hg
    obtain ⟨its, rv, p, hz⟩ := I.tuple hq
    have hT0 : s.heap.IsTuple a its.toArray := p
    obtain ⟨f0, f1, f2, f3, f4, f5⟩ := hf it (by simp)
    have hai : a ≠ it := fun z => by
      obtain ⟨o, ho, hc1, _⟩ := id hT0
      obtain ⟨o2, ho2, hc2, _⟩ := id hit
      rw [z] at ho
      obtain rfl := Option.some.inj (ho.symm.trans ho2)
      rw [hc1] at hc2
      simp at hc2
    have hl := rv.length
    exact wpAny_pyNext_enum_endD (Draws.tuple (show X.A.in1.handled = none from I.ok.hd hc) it a hai its.toArray) he ⟨by simp [← hl, hx]; exact hit, hT0⟩ fun h' eb => ⟨rfl, I.turned (t' := s.toks) (fun b o hb q => eb b o hb q) f0 f1 f3 f4 f5⟩
  self := fun A i s Q E st h => let ⟨⟨_, he⟩, _⟩ := st; wpAny_pyIter_enum he h
def iEnumA (K : PySem.W.Frag) (ta : TA) : TI := fun σ H R => ta σ H fun vs H1 => ∃ a xs, vs = [.ref a] ∧ ((SqL K H1 a xs ∧ R (Ite K a) H1) ∨ (SqT K H1 a xs ∧ R (IteT K a) H1))
theorem pi_enumA {X : Cx} {e : Expr} {ta : TA} {p pos tpos : Pos} {elts : List Expr} {kk : Nat} (hg : Gl X "enumerate") (hm : X.mg "enumerate" = none) (ha : PA X [e] ta) (hs : starEach [e] X.env = [(false, eval e X.env)] := by rfl) :
    PI X (.Tuple elts kk tpos) (.Call (.Name "enumerate" p) [e] [] pos) (iEnumA X.K ta) := by
  refine ⟨fun pins s σ H R I h => ?_⟩
  refine Call_ (ld_blt I hg hm boot_enumerate (PyProof.Rows.callWith_type1 (thn (ha.run pos pins s σ H _ I h) fun us s1 ⟨vs, H1, I1, r1, q1⟩ => ?_) hs rfl))
  obtain ⟨a, xs, ex, q⟩ := q1
  subst ex
  cases r1 with
  | cons r rr =>
    cases rr
    cases r
    have fp : ∀ b, b = s1.heap.objs.size + 1 ∨ b = s1.heap.objs.size → s1.heap.objs.size ≤ b := fun b e' => by
      rcases e' with z | z
      · rw [z]; exact Nat.le_add_right _ _
      · rw [z]; exact Nat.le_refl _
    rcases q with ⟨hq, q⟩ | ⟨hq, q⟩
    · obtain ⟨its, rv, p', hz⟩ := I1.list hq
      refine call_enumerate_list p'.isList fun h' he hit hsz hk => wpAny_pyIter_enum he ?_
      have I2 : Inv X pins σ H1 { s1 with heap := h' } := I1.kept (t' := s1.toks) hk
      exact ⟨s1.heap.objs.size + 1, [s1.heap.objs.size + 1, s1.heap.objs.size], _, _, H1, rfl, I2, turn_enum a (s1.heap.objs.size + 1) s1.heap.objs.size, ⟨⟨.none, he⟩, hit, Nat.succ_ne_self _⟩, fun b hb => I1.fpOk (fp b (by simpa using hb)) (I1.hok.fresh (fp b (by simpa using hb))), q⟩
    · obtain ⟨its, rv, p', hz⟩ := I1.tuple hq
      refine call_enumerate_tuple (show s1.heap.IsTuple a its.toArray from p') fun h' he hit hsz hk => wpAny_pyIter_enum he ?_
      have I2 : Inv X pins σ H1 { s1 with heap := h' } := I1.kept (t' := s1.toks) hk
      exact ⟨s1.heap.objs.size + 1, [s1.heap.objs.size + 1, s1.heap.objs.size], _, _, H1, rfl, I2, turn_enumT a (s1.heap.objs.size + 1) s1.heap.objs.size, ⟨⟨.none, he⟩, hit, Nat.succ_ne_self _⟩, fun b hb => I1.fpOk (fp b (by simpa using hb)) (I1.hok.fresh (fp b (by simpa using hb))), q⟩
theorem walk_enumT {K : PySem.W.Frag} {a : Addr} {xs : List V} : Walk (IteT K a) xs.length (fun H => SqT K H a xs) (YPair (fun i => some (.int (i : Nat))) (fun i => xs[i]?)) := by
  refine ⟨fun i _ hi q => ⟨xs, xs[i], q, by simp [hi]⟩, fun _ q => ⟨xs, q, rfl⟩, fun i H v H' _ q y => ?_⟩
  obtain ⟨T, x, h1, h2, h3, h4⟩ := y
  exact ⟨T, .int (i : Nat), x, h1, h2, h3, rfl, h4 xs q⟩
end L3
end

section
/-! Law-independent layer 3: sorted of data, d.items() as a value -/
namespace L3
open PySem PySem.Spec PyProof.Rows L2 PySem.W L2.DX
mutual
theorem readsThere {h : Heap} : ∀ (d : PyData) (v : Value) (as : List Addr), alike d d = true → Reads h v d as → ∀ a ∈ as, a < h.objs.size
  | .none, _, _, _, r => by cases r; exact fun _ q => nomatch q
  | .bool _, _, _, _, r => by cases r; exact fun _ q => nomatch q
  | .int _, _, _, _, r => by cases r; exact fun _ q => nomatch q
  | .str _, _, _, _, r => by cases r; exact fun _ q => nomatch q
  | .list xs, _, _, hal, r => by
    cases r with
    | list h1 h2 h3 h4 =>
      intro b hb
      rcases List.mem_cons.mp hb with rfl | hb
      · exact Heap.lt_size h1
      · exact readsAllThere xs _ _ (by simpa [alike] using hal) h4 b hb
  | .tuple xs, _, _, hal, r => by
    cases r with
    | tuple h1 h2 h3 h4 => exact readsAllThere xs _ _ (by simpa [alike] using hal) h4
  | .dict _, _, _, hal, _ => absurd hal (by simp [alike])
theorem readsAllThere {h : Heap} : ∀ (ds : List PyData) (vs : List Value) (as : List Addr), alikeAll ds ds = true → ReadsAll h vs ds as → ∀ a ∈ as, a < h.objs.size
  | [], _, _, _, r => by cases r; exact fun _ q => nomatch q
  | d :: ds, _, _, hal, r => by
    cases r with
    | cons h1 h2 =>
      intro b hb
      rcases List.mem_append.mp hb with hb | hb
      · exact readsThere d _ _ (alike_all_cons hal).1 h1 b hb
      · exact readsAllThere ds _ _ (alike_all_cons hal).2 h2 b hb
end
theorem EachIs.mem {α β : Type} {R S : α → β → Prop} : ∀ {as : List α} {bs : List β}, EachIs R as bs → (∀ a b, b ∈ bs → R a b → S a b) → EachIs S as bs
  | _, _, .nil, _ => .nil
  | _, _, .cons h t, k => .cons (k _ _ (List.mem_cons_self ..) h) (EachIs.mem t fun a b hb => k a b (List.mem_cons_of_mem _ hb))
/-- sorted(v), v's items collected -/
theorem sorted_gen {prog : Program} {w : World} {A : Around} {E : Value → Shared → Prop} {s : Shared} {v : Value} {Q : Value → Shared → Prop}
    (hcol : ∀ C : List Value → Shared → Prop, (∀ vs h' tk, (∃ (bs : List PyData) (R : Value → PyData → Prop), (∀ b o, s.heap.get? b = some o → h'.get? b = some o) ∧ vs.length = bs.length ∧ bs.length ≤ sizeLine ∧ EachIs R vs bs ∧ EachIs (fun v b => ∃ as, Reads h' v b as) vs bs ∧ AllAlike bs ∧ Sortable bs ∧
      (∀ b, b ∈ bs → A.units + 3 + b.depth < cLine) ∧
      ∀ (h2 : Heap) (out : List Value), out.length = bs.length → EachIs R out (bs.mergeSort (dataLe false id)) → (∀ b o, h'.get? b = some o → h2.get? b = some o) → (∃ e, h2.get? h'.objs.size = some (seqObj "list" out.toArray e)) → Q (.ref h'.objs.size) { s with heap := h2, toks := tk }) → C vs { s with heap := h', toks := tk }) →
      wpAny (model prog w) A.in1 (collect v) C E s) :
    wpAny (model prog w) A (call (.builtin "sorted") [v]) Q E s := by
  refine Calls.call_function_entry kind_sorted plain_sorted entry_sorted (args_sorted1 _) ?_
  unfold Builtin.«sorted»
  refine wpAny_bind (m := checkCount "sorted" 1 1 _) (wpAny_pure ?_)
  refine wpAny_bind (hcol _ fun vs h' tk ⟨bs, R, hk, hl, hz, e, er, hal, hs, hu, h⟩ => ?_)
  refine wpAny_bind (wpAny_newList ?_ (by rw [hl]; exact hz))
  have hoL : (h'.push (seqObj "list" vs.toArray 0)).get? h'.objs.size = some (seqObj "list" vs.toArray 0) := Heap.get?_push_size _ rfl
  have lt : ∀ {b : Addr} {o : Obj}, h'.get? b = some o → b < h'.objs.size := fun e => Heap.lt_size e
  have er2 : EachIs (fun v b => ∃ as, Reads (h'.push (seqObj "list" vs.toArray 0)) v b as ∧ h'.objs.size ∉ as) vs bs := EachIs.mem er fun _ b hb ⟨as, r⟩ => ⟨as, PyProof.Rows.Reads.keeps (fun _ _ q => Heap.get?_push_of_some _ q) r, fun hm => Nat.lt_irrefl _ (readsThere b _ _ (hal b hb b hb) r _ hm)⟩
  show wpAny _ _ _ _ _ { s with heap := h'.push (seqObj "list" vs.toArray 0), toks := tk }
  refine wpAny_bind (wpAny_holding (list_sort_data (s := { s with heap := h'.push (seqObj "list" vs.toArray 0), toks := tk }) (enc := id) hoL e er2 (by rw [List.map_id]; exact hal) (by rw [List.map_id]; exact hs) hz (fun b hb => by have := hu b hb; show A.units + 1 + 1 + b.depth < _; omega) fun out ho eo => ?_))
  refine wpAny_pure ⟨_, rfl, h _ out ho eo (fun b o q => ?_) (sortedHeap_at hoL)⟩
  rw [sortedHeap_old (Nat.ne_of_lt (lt q)) (by rw [size_push']; exact Nat.lt_succ_of_lt (lt q))]
  exact Heap.get?_push_of_some _ q
section
variable {X : Cx}
theorem each_dp {K : PySem.W.Frag} {H : Hp} : ∀ {vs : List V} {us : List Value} {ds : List PyData}, Vals vs us → DpAll K H vs ds → EachIs (fun u d => ∃ v, RelV v u ∧ Dp K H v d) us ds
  | _, _, _, .nil, .nil => .nil
  | _, _, _, .cons r rr, .cons a aa => .cons ⟨_, r, a⟩ (each_dp rr aa)
theorem dp_each {K : PySem.W.Frag} {H : Hp} : ∀ {us : List Value} {ds : List PyData}, EachIs (fun u d => ∃ v, RelV v u ∧ Dp K H v d) us ds → ∃ vs, Vals vs us ∧ DpAll K H vs ds
  | _, _, .nil => ⟨[], .nil, .nil⟩
  | _, _, .cons ⟨v, r, a⟩ t => let ⟨vs, rr, aa⟩ := dp_each t; ⟨v :: vs, .cons r rr, .cons a aa⟩
theorem each_reads {pins : List (Addr × Obj)} {σ : L2.St} {H : Hp} {s : Shared} (I : Inv X pins σ H s) : ∀ {us : List Value} {ds : List PyData}, EachIs (fun u d => ∃ v, RelV v u ∧ Dp X.K H v d) us ds → EachIs (fun u d => ∃ as, Reads s.heap u d as) us ds
  | _, _, .nil => .nil
  | _, _, .cons ⟨v, r, a⟩ t => .cons (Dp.reads I _ v _ a r) (each_reads I t)
/-- data that sort -/
structure SortOk (ds : List PyData) : Prop where
  al : AllAlike ds
  so : Sortable ds
  dp : ∀ d ∈ ds, d.depth ≤ 8
  ln : ds.length ≤ 1000
def rSortD (K : PySem.W.Frag) : List V → Hp → VK → Prop := fun xs H Q => ∃ (a : Addr) (vs : List V) (ds : List PyData), xs = [.ref a] ∧ (SqL K H a vs ∨ SqT K H a vs) ∧ DpAll K H vs ds ∧ SortOk ds ∧
  ∀ p vs', H p = none → DpAll K H vs' (ds.mergeSort (dataLe false id)) → Q (.ref p) (upd H p (.lst vs'))
theorem cr_sortD (hu : X.A.units + 64 < cLine) : CallR X (.builtin "sorted") (rSortD X.K) := by
  intro pins s σ H xs us Q I r h
  obtain ⟨a, vs, ds, rfl, hs, hd, so, q⟩ := h
  rw [Vals.ref1 r]
  obtain ⟨its, T, o, n, rv, hT, ho, hc, hdt⟩ : ∃ (its : List Value) (T : String) (o : Obj) (n : Nat), Vals vs its ∧ (T = "list" ∨ T = "tuple") ∧ s.heap.get? a = some o ∧ o.cls = .type T ∧ o.data = .seq its.toArray n := by
    rcases hs with hs | hs
    · obtain ⟨its, rv, hl, hz⟩ := I.list hs
      obtain ⟨o, ho, hc, n, hd⟩ := hl.isList
      exact ⟨its, "list", o, n, rv, .inl rfl, ho, hc, hd⟩
    · obtain ⟨its, rv, hl, hz⟩ := I.tuple hs
      obtain ⟨o, ho, hc, n, hd⟩ := show s.heap.IsTuple a its.toArray from hl
      exact ⟨its, "tuple", o, n, rv, .inr rfl, ho, hc, hd⟩
  have e := each_dp rv hd
  have hln := so.ln
  have el := e.length
  refine sorted_gen fun C k => wpAny_collect_seq a hT ho hc hdt (fun h' hk => ?_) (by rw [List.size_toArray, sizeLine_eq]; omega)
  have I1 : Inv X pins σ H { s with heap := h' } := I.kept (t' := s.toks) hk
  refine k _ h' s.toks ⟨ds, fun u d => ∃ v, RelV v u ∧ Dp X.K H v d, hk, el, by rw [sizeLine_eq]; omega, e, each_reads I1 e, so.al, so.so, fun b hb => by have := so.dp b hb; omega, fun h2 out ho2 eo hk2 ⟨ep, hat⟩ => ?_⟩
  obtain ⟨vs', rv', ad⟩ := dp_each eo
  have hlen : vs'.length ≤ sizeLine := by
    rw [rv'.length, ho2, sizeLine_eq]
    omega
  exact ⟨.ref _, upd H h'.objs.size (.lst vs'), I1.laid (t' := s.toks) hk2 (Nat.le_refl _) ⟨hlen, out, ep, rv', hat⟩, rfl, q _ vs' (I1.hok.fresh (Nat.le_refl _)) ad⟩
/-- d.items() as a value -/
def rItemsK : V → List V → Hp → VK → Prop := fun x xs H Q => ∃ (a : Addr) (kvs : List (L2.Key × V)), x = .ref a ∧ xs = [] ∧ H a = some (.dK kvs) ∧ ∀ p, H p = none → Q (.ref p) (upd H p (itemsO p a))
theorem mt_itemsK : MtR X "dict.items" rItemsK := by
  intro pins s σ H x xs v us Q I rx rxs h
  obtain ⟨a, kvs, rfl, rfl, ha, q⟩ := h
  cases rx
  cases rxs
  obtain ⟨hz, hs0, vs, kv, hdo⟩ := I.hok a _ ha
  refine call_meetsIn PySem.F.slot_dict_items hdo.typeIs PySem.F.entry_dict_items (PySem.F.args_dict_items_1 _) (meets_dict_items (mixKind X.prog X.w) a hs0) ⟨⟨vs, hdo⟩, ?_⟩
  have hf : H s.heap.objs.size = none := I.hok.fresh (Nat.le_refl _)
  exact ⟨.ref s.heap.objs.size, upd H s.heap.objs.size (itemsO s.heap.objs.size a), I.laid (t' := s.toks) (fun b u e => Heap.get?_push_of_some _ e) (Nat.le_refl _) (itemsO_ok (Heap.get?_push_size _ rfl)), rfl, q _ hf⟩
/-- sorted(d.items()) -/
def kD : L2.Key → PyData
  | .inl i => .int i
  | .inr x => .str x
theorem kD_dp {K : PySem.W.Frag} {H : Hp} (k : L2.Key) : Dp K H (kV k) (kD k) := by
  cases k with
  | inl i => exact .int i
  | inr x => exact .str x
def ItemsOf (K : PySem.W.Frag) (H : Hp) (kvs : List (L2.Key × V)) (ds : List PyData) : Prop := Paired (fun kv d => ∃ vd, d = PyData.tuple [kD kv.1, vd] ∧ Dp K H kv.2 vd) kvs ds
def rSortIt (K : PySem.W.Frag) : List V → Hp → VK → Prop := fun xs H Q => ∃ (p a : Addr) (kvs : List (L2.Key × V)) (ds : List PyData), xs = [.ref p] ∧ H p = some (itemsO p a) ∧ H a = some (.dK kvs) ∧ ItemsOf K H kvs ds ∧ SortOk ds ∧
  ∀ H' l vs', Ex H H' → H' l = some (.lst vs') → DpAll K H' vs' (ds.mergeSort (dataLe false id)) → Q (.ref l) H'
theorem dpAll_of {K : PySem.W.Frag} {H : Hp} {vs : List V} {ds : List PyData} (hl : vs.length = ds.length) (h : ∀ (j : Nat) (v : V) (d : PyData), vs[j]? = some v → ds[j]? = some d → Dp K H v d) : DpAll K H vs ds := by
  induction vs generalizing ds with
  | nil => cases ds with
    | nil => exact .nil
    | cons d ds => simp at hl
  | cons v vs ih => cases ds with
    | nil => simp at hl
    | cons d ds => exact .cons (h 0 v d rfl rfl) (ih (by simpa using hl) fun j x y e1 e2 => h (j + 1) x y (by simpa using e1) (by simpa using e2))
theorem cr_sortIt (hc : X.calm = true) (hu : X.A.units + 64 < cLine) : CallR X (.builtin "sorted") (rSortIt X.K) := by
  intro pins s σ H xs us Q I r h
  obtain ⟨p, a, kvs, ds, rfl, hp, ha, hit, so, q⟩ := h
  rw [Vals.ref1 r]
  have view : s.heap.IsItemsView p a := (show ObjOk X.prog X.w H s.heap p (itemsO p a) from I.hok p _ hp).1
  obtain ⟨hz, hs0, vs, kv, hdo⟩ := I.hok a _ ha
  obtain ⟨ep, hat⟩ := hdo.dictAt
  have l1 := kv.length
  have l2 : kvs.length = ds.length := Paired.length hit
  have l3 := so.ln
  refine sorted_gen fun C k => kdx_collect (A := X.A.in1) (knd := mixKind X.prog X.w) (kvs := vs) (ep := ep) (show X.A.in1.handled = none from I.ok.hd hc) view hat (by rw [sizeLine_eq]; omega) fun h' tk as hk hl hG => ?_
  have nd : as.Nodup := List.Pairwise.imp (fun h => Nat.ne_of_lt h) hG.rise
  have I1 : Inv X pins σ H { s with heap := h', toks := tk } := I.kept hk
  obtain ⟨H2, I2, x2, t2⟩ := takeT (P := fun a ws => ∃ (j : Nat) (kv : L2.Key × V), as[j]? = some a ∧ kvs[j]? = some kv ∧ ws = [kV kv.1, kv.2]) I as H I1 nd fun b hb => by
    obtain ⟨j, hj⟩ := List.mem_iff_getElem?.mp hb
    obtain ⟨key, k0, x, e1, e2, e3⟩ := hG.pairs j b hj
    obtain ⟨x0, e4, r4⟩ := kv.at' e1
    refine ⟨Nat.le_of_lt (hG.above b hb), I.hok.fresh (Nat.le_of_lt (hG.above b hb)), _, ⟨j, (k0, x0), hj, e4, rfl⟩, fun H2 => ⟨by show 2 ≤ sizeLine; decide, [key, x], .cons ?_ (.cons r4 .nil), ⟨_, e3, rfl, _, rfl⟩⟩⟩
    exact relV_key (show keyIs k0 key = true from e2)
  have la : (as.map V.ref).length = ds.length := by rw [List.length_map, hl, ← l1, l2]
  have dd : DpAll X.K H2 (as.map V.ref) ds := dpAll_of la fun j v d e1 e2 => by
    rw [List.getElem?_map] at e1
    cases ea : as[j]? with
    | none => rw [ea] at e1; cases e1
    | some b =>
      rw [ea] at e1
      cases e1
      obtain ⟨ws, ⟨j', kv', f1, f2, f3⟩, f4⟩ := t2 b (List.mem_of_getElem? ea)
      obtain rfl : j = j' := by
        have h1 := (List.getElem?_eq_some_iff.mp ea)
        have h2 := (List.getElem?_eq_some_iff.mp f1)
        obtain ⟨q1, w1⟩ := h1
        obtain ⟨q2, w2⟩ := h2
        exact (List.getElem_inj nd).mp (w1.trans w2.symm)
      obtain ⟨d', g1, vd, g2, g3⟩ := Paired.get' hit f2
      rw [e2] at g1
      cases g1
      subst g2 f3
      exact .tup (.inl (.inl f4)) (.cons (kD_dp _) (.cons (Dp_ex x2 _ _ g3) .nil))
  have rv : ∀ (l : List Addr), Vals (l.map V.ref) (l.map Value.ref) := fun l => by
    induction l with
    | nil => exact .nil
    | cons b l ih => exact .cons rfl ih
  have e := each_dp (rv as) dd
  refine k _ h' tk ⟨ds, fun u d => ∃ v, RelV v u ∧ Dp X.K H2 v d, hk, e.length, by rw [sizeLine_eq]; omega, e, each_reads I2 e, so.al, so.so, fun b hb => by have := so.dp b hb; omega, fun h2 out ho2 eo hk2 ⟨ep, hat⟩ => ?_⟩
  obtain ⟨vs', rv', ad⟩ := dp_each eo
  have hlen : vs'.length ≤ sizeLine := by
    rw [rv'.length, ho2, sizeLine_eq]
    omega
  have fr : H2 h'.objs.size = none := I2.hok.fresh (Nat.le_refl _)
  have e3 : Ex H2 (upd H2 h'.objs.size (.lst vs')) := Ex.new fr
  refine ⟨.ref _, upd H2 h'.objs.size (.lst vs'), I2.laid (t' := tk) hk2 (Nat.le_refl _) ⟨hlen, out, ep, rv', hat⟩, rfl, q _ _ vs' (Ex.trans x2 e3) upd_same ?_⟩
  have all : ∀ (ds : List PyData) (vs : List V), DpAll X.K H2 vs ds → DpAll X.K (upd H2 h'.objs.size (.lst vs')) vs ds := fun ds vs h => DpAll_ex e3 ds vs h
  exact all _ _ ad
end
end L3
end

section
/-! Law-independent layer 4: orders, dicts of rows, steps -/
namespace L3
open PySem PySem.Spec PyProof.Rows L2 PySem.W L2.DX
/-! ### orders -/
theorem strict_unique {α : Type} {lt : α → α → Prop} (irr : ∀ a, ¬ lt a a) (tr : ∀ a b c, lt a b → lt b c → lt a c) : ∀ {l1 l2 : List α}, l1.Pairwise lt → l2.Pairwise lt → (∀ x, x ∈ l1 ↔ x ∈ l2) → l1 = l2
  | [], [], _, _, _ => rfl
  | [], b :: l, _, _, h => absurd ((h b).mpr (List.mem_cons_self ..)) (by simp)
  | a :: l, [], _, _, h => absurd ((h a).mp (List.mem_cons_self ..)) (by simp)
  | a :: l, b :: m, p, q, h => by
    rw [List.pairwise_cons] at p q
    have e : a = b := by
      rcases List.mem_cons.mp ((h a).mp (List.mem_cons_self ..)) with e | e
      · exact e
      · rcases List.mem_cons.mp ((h b).mpr (List.mem_cons_self ..)) with e2 | e2
        · exact e2.symm
        · exact absurd (tr _ _ _ (p.1 b e2) (q.1 a e)) (irr a)
    subst e
    rw [strict_unique irr tr p.2 q.2 fun x => ?_]
    constructor
    · intro hx
      rcases List.mem_cons.mp ((h x).mp (List.mem_cons_of_mem _ hx)) with e | e
      · subst e
        exact absurd (p.1 _ hx) (irr _)
      · exact e
    · intro hx
      rcases List.mem_cons.mp ((h x).mpr (List.mem_cons_of_mem _ hx)) with e | e
      · subst e
        exact absurd (q.1 _ hx) (irr _)
      · exact e
theorem str_lt_irrefl (a : Str) : ¬ a.cps.toList < a.cps.toList := List.lt_irrefl _
theorem str_lt_trans (a b c : Str) (h : a.cps.toList < b.cps.toList) (k : b.cps.toList < c.cps.toList) : a.cps.toList < c.cps.toList := List.lt_trans h k
theorem str_eq {a b : Str} (h1 : ¬ a.cps.toList < b.cps.toList) (h2 : ¬ b.cps.toList < a.cps.toList) : a = b := by
  have e : a.cps.toList = b.cps.toList := List.le_antisymm (List.not_lt.mp h2) (List.not_lt.mp h1)
  cases a with
  | mk x => cases b with
    | mk y =>
      congr 1
      exact Array.toList_inj.mp e
theorem rising_pw : ∀ (l : List Str) (p : Str), risingS p l = true → (p :: l).Pairwise (fun a b => ¬ b.cps.toList < a.cps.toList)
  | [], p, _ => by simp
  | x :: r, p, h => by
    unfold risingS at h
    rw [Bool.and_eq_true, ltCps_eq] at h
    have ih := rising_pw r x h.2
    have h1 : ¬ x.cps.toList < p.cps.toList := by simpa using h.1
    rw [List.pairwise_cons]
    refine ⟨fun y hy => ?_, ih⟩
    rcases List.mem_cons.mp hy with e | e
    · rw [e]; exact h1
    · rw [List.pairwise_cons] at ih
      have h2 := ih.1 y e
      exact List.not_lt.mpr (List.le_trans (List.not_lt.mp h1) (List.not_lt.mp h2))
theorem strs_strict {ys ks : List Str} (p : ys.Perm ks) (s : sortedS ys = true) (nd : ks.Nodup) : ys.Pairwise (fun a b => a.cps.toList < b.cps.toList) := by
  have q : ys.Pairwise (fun a b : Str => ¬ b.cps.toList < a.cps.toList) := by
    cases ys with
    | nil => exact .nil
    | cons y r => exact rising_pw r y s
  refine (List.pairwise_and_iff.mpr ⟨q, p.nodup_iff.mpr nd⟩).imp fun {a b} h => ?_
  by_cases h2 : a.cps.toList < b.cps.toList
  · exact h2
  · exact absurd (str_eq h2 h.1) h.2
theorem ints_strict {ys ks : List Int} (p : ys.Perm ks) (s : ys.Pairwise (· ≤ ·)) (nd : ks.Nodup) : ys.Pairwise (· < ·) :=
  (List.pairwise_and_iff.mpr ⟨s, p.nodup_iff.mpr nd⟩).imp fun {a b} h => by have := h.2; omega
section
variable {K : PySem.W.Frag} {σ : L2.St} {H : Hp} {Q : VK} {D : Ends} {v x y : V} {i j : Int} {a p : Addr} {xs : List V}
/-- enumerate, whichever it is -/
theorem k_enumA {ta : TA} {R : It → Hp → Prop} (h : ta σ H fun vs H1 => ∃ a xs, vs = [.ref a] ∧ ((SqL K H1 a xs ∧ R (Ite K a) H1) ∨ (SqT K H1 a xs ∧ R (IteT K a) H1))) : iEnumA K ta σ H R := h
theorem k_enumAE {g : TG} {tb : TS} {σ2 : L2.St} {Hb : Hp} (h : SqL K Hb p xs ∨ SqT K Hb p xs) (eb : Ex Hb H) (q : ∀ J G, (∀ H', Ex Hb H' → G H') → Walk J xs.length G (YPair (fun i => some (.int (i : Nat))) (fun i => xs[i]?)) → ForK J g tb D σ2 H) :
    ∃ (a : Addr) (zs : List V), [V.ref p] = [.ref a] ∧ ((SqL K H a zs ∧ ForK (Ite K a) g tb D σ2 H) ∨ (SqT K H a zs ∧ ForK (IteT K a) g tb D σ2 H)) := by
  rcases h with h | h
  · exact ⟨p, xs, rfl, .inl ⟨eb.sqL h, q _ _ (fun H' e => e.sqL h) walk_enum⟩⟩
  · exact ⟨p, xs, rfl, .inr ⟨eb.sqT h, q _ _ (fun H' e => e.sqT h) walk_enumT⟩⟩
/-- e.f = v -/
theorem k_sfld {ta tv : TE} {f : Str} (h : tv σ H fun y H1 => ta σ H1 fun x H2 => ∃ a C dx fs, x = .ref a ∧ H2 a = some (.ins C dx fs) ∧ Cls K C ∧ NoAttr K C f ∧ fs.length < 1000 ∧ D.nx σ (upd H2 a (.ins C dx (putF f y fs)))) : sFld K ta tv f D σ H := h
end
/-! ### dicts of rows: the key of a row, its tuple -/
section
variable {α κ : Type} [DecidableEq κ] (key : α → κ) (T : Hp → α → V → Prop)
def RowsK (H : Hp) (kvs : List (κ × V)) (cs : List α) : Prop := Paired (fun kv c => kv.1 = key c ∧ T H c kv.2) kvs cs
/-- the row at a key -/
def rowAt (cs : List α) (k : κ) : Option α := cs.find? fun c => decide (key c = k)
/-- a row put, in its place or at the end -/
def putR (cs : List α) (c : α) : List α := if (cs.any fun d => decide (key d = key c)) = true then cs.map (fun d => if key d = key c then c else d) else cs ++ [c]
def dropR (cs : List α) (k : κ) : List α := cs.filter fun d => decide (key d ≠ k)
variable {key T}
theorem RowsK.ex (hT : ∀ H H' c v, Ex H H' → T H c v → T H' c v) {H H' : Hp} (e : Ex H H') {kvs : List (κ × V)} {cs : List α} (r : RowsK key T H kvs cs) : RowsK key T H' kvs cs :=
  Paired.mapP r fun _ _ ⟨h1, h2⟩ => ⟨h1, hT _ _ _ _ e h2⟩
theorem RowsK.mono {T' : Hp → α → V → Prop} {H H' : Hp} (hT : ∀ c v, T H c v → T' H' c v) {kvs : List (κ × V)} {cs : List α} (r : RowsK key T H kvs cs) : RowsK key T' H' kvs cs :=
  Paired.mapP r fun _ _ ⟨h1, h2⟩ => ⟨h1, hT _ _ h2⟩
theorem RowsK.keys {H : Hp} {kvs : List (κ × V)} {cs : List α} (r : RowsK key T H kvs cs) : kvs.map (·.1) = cs.map key := by
  induction r with
  | nil => rfl
  | cons h _ ih => rw [List.map_cons, List.map_cons, h.1, ih]
theorem RowsK.length {H : Hp} {kvs : List (κ × V)} {cs : List α} (r : RowsK key T H kvs cs) : kvs.length = cs.length := Paired.length r
theorem rowAt_nil {k : κ} : rowAt key [] k = none := rfl
theorem rowAt_pos {c : α} {cs : List α} {k : κ} (h : key c = k) : rowAt key (c :: cs) k = some c := by
  unfold rowAt
  rw [List.find?_cons, decide_eq_true h]
theorem rowAt_neg {c : α} {cs : List α} {k : κ} (h : key c ≠ k) : rowAt key (c :: cs) k = rowAt key cs k := by
  unfold rowAt
  rw [List.find?_cons, decide_eq_false h]
/-- what stands at a key -/
def AtR (H : Hp) (T : Hp → α → V → Prop) (o : Option α) (v : Option V) : Prop := match o with
  | none => v = none
  | some c => ∃ x, v = some x ∧ T H c x
theorem RowsK.val {H : Hp} {kvs : List (κ × V)} {cs : List α} (r : RowsK key T H kvs cs) (k : κ) : AtR H T (rowAt key cs k) (valV kvs k) := by
  induction r with
  | nil => rfl
  | @cons kv c kvs cs h r ih =>
    obtain ⟨h1, h2⟩ := h
    by_cases e : key c = k
    · rw [rowAt_pos e, valV_pos (h1.trans e)]
      exact ⟨_, rfl, h2⟩
    · rw [rowAt_neg e, valV_neg (fun z => e (h1.symm.trans z))]
      exact ih
theorem rowAt_mem {cs : List α} (nd : (cs.map key).Nodup) {c : α} (h : c ∈ cs) : rowAt key cs (key c) = some c := by
  induction cs with
  | nil => cases h
  | cons d ds ih =>
    rw [List.map_cons, List.nodup_cons] at nd
    rcases List.mem_cons.mp h with q | q
    · rw [q, rowAt_pos rfl]
    · have e : key d ≠ key c := fun z => nd.1 (List.mem_map.mpr ⟨c, q, z.symm⟩)
      rw [rowAt_neg e]
      exact ih nd.2 q
theorem rowAt_some {cs : List α} {k : κ} {c : α} (h : rowAt key cs k = some c) : c ∈ cs ∧ key c = k := ⟨List.mem_of_find?_eq_some h, by simpa using List.find?_some h⟩
theorem rowAt_none {cs : List α} {k : κ} (h : rowAt key cs k = none) : ∀ c ∈ cs, key c ≠ k := by
  unfold rowAt at h
  rw [List.find?_eq_none] at h
  intro c hc e
  have := h c hc
  simp [e] at this
theorem rowAt_none' {cs : List α} {k : κ} (h : ∀ c ∈ cs, key c ≠ k) : rowAt key cs k = none := by
  unfold rowAt
  rw [List.find?_eq_none]
  intro c hc
  simpa using h c hc
/-- the same members, the same rows -/
theorem rowAt_ext {cs ds : List α} (n1 : (cs.map key).Nodup) (n2 : (ds.map key).Nodup) : (∀ c, c ∈ cs ↔ c ∈ ds) ↔ ∀ k, rowAt key cs k = rowAt key ds k := by
  constructor
  · intro h k
    cases e : rowAt key cs k with
    | none =>
      symm
      exact rowAt_none' fun c hc => rowAt_none e c ((h c).mpr hc)
    | some c =>
      obtain ⟨h1, h2⟩ := rowAt_some e
      rw [← h2, rowAt_mem n2 ((h c).mp h1)]
  · intro h c
    constructor
    · intro hc
      have e := rowAt_mem n1 hc
      rw [h] at e
      exact (rowAt_some e).1
    · intro hc
      have e := rowAt_mem n2 hc
      rw [← h] at e
      exact (rowAt_some e).1
theorem any_rowAt (k : κ) (cs : List α) : (cs.any fun d => decide (key d = k)) = (rowAt key cs k).isSome := by
  induction cs with
  | nil => rfl
  | cons d ds ih =>
    by_cases e : key d = k
    · rw [rowAt_pos e, List.any_cons, decide_eq_true e]; rfl
    · rw [rowAt_neg e, List.any_cons, decide_eq_false e]; exact ih
theorem putR_new {cs : List α} {c : α} (h : rowAt key cs (key c) = none) : putR key cs c = cs ++ [c] := by
  unfold putR
  rw [any_rowAt, h]
  exact if_neg (by simp)
theorem rowAt_app (cs : List α) (c : α) (k : κ) : rowAt key (cs ++ [c]) k = (rowAt key cs k).or (if key c = k then some c else none) := by
  induction cs with
  | nil =>
    by_cases e : key c = k
    · rw [if_pos e]; exact rowAt_pos e
    · rw [if_neg e]; exact rowAt_neg e
  | cons d ds ih =>
    by_cases e : key d = k
    · rw [rowAt_pos e, List.cons_append, rowAt_pos e]; rfl
    · rw [rowAt_neg e, List.cons_append, rowAt_neg e, ih]
theorem rowAt_map (cs : List α) (c : α) (k : κ) : rowAt key (cs.map fun d => if key d = key c then c else d) k = if key c = k then (rowAt key cs k).map (fun _ => c) else rowAt key cs k := by
  induction cs with
  | nil => simp [rowAt_nil]
  | cons d ds ih =>
    rw [List.map_cons]
    by_cases e : key d = key c
    · rw [if_pos e]
      by_cases f : key c = k
      · rw [if_pos f, rowAt_pos f, rowAt_pos (e.trans f)]; rfl
      · rw [if_neg f, rowAt_neg f, rowAt_neg (fun z => f (e.symm.trans z)), ih, if_neg f]
    · rw [if_neg e]
      by_cases f : key d = k
      · have g : key c ≠ k := fun z => e (f.trans z.symm)
        rw [if_neg g, rowAt_pos f, rowAt_pos f]
      · rw [rowAt_neg f, rowAt_neg f, ih]
theorem rowAt_put (cs : List α) (c : α) (k : κ) : rowAt key (putR key cs c) k = if key c = k then some c else rowAt key cs k := by
  unfold putR
  by_cases a : (cs.any fun d => decide (key d = key c)) = true
  · rw [if_pos a, rowAt_map]
    by_cases e : key c = k
    · rw [if_pos e, if_pos e]
      rw [any_rowAt, e] at a
      obtain ⟨d, hd⟩ := Option.isSome_iff_exists.mp a
      rw [hd]; rfl
    · rw [if_neg e, if_neg e]
  · rw [if_neg a, rowAt_app]
    by_cases e : key c = k
    · rw [if_pos e, if_pos e]
      rw [any_rowAt, e] at a
      cases q : rowAt key cs k with
      | none => rfl
      | some d => rw [q] at a; exact absurd rfl a
    · rw [if_neg e, if_neg e]
      cases rowAt key cs k <;> rfl
theorem putR_keys (cs : List α) (c : α) (nd : (cs.map key).Nodup) : ((putR key cs c).map key).Nodup := by
  unfold putR
  by_cases a : (cs.any fun d => decide (key d = key c)) = true
  · rw [if_pos a, List.map_map]
    have e : (key ∘ fun d => if key d = key c then c else d) = key := by
      funext d
      show key (if key d = key c then c else d) = key d
      by_cases e : key d = key c
      · rw [if_pos e, e]
      · rw [if_neg e]
    rw [e]; exact nd
  · rw [if_neg a, List.map_append]
    rw [List.any_eq_true] at a
    refine List.nodup_append.mpr ⟨nd, by simp, fun x hx y hy => ?_⟩
    obtain ⟨d, hd, rfl⟩ := List.mem_map.mp hx
    have : y = key c := by simpa using hy
    subst this
    intro e
    exact a ⟨d, hd, decide_eq_true e⟩
theorem putR_len (cs : List α) (c : α) : (putR key cs c).length ≤ cs.length + 1 := by
  unfold putR
  by_cases a : (cs.any fun d => decide (key d = key c)) = true
  · rw [if_pos a, List.length_map]; omega
  · rw [if_neg a, List.length_append]; simp
theorem rowAt_drop (cs : List α) (k j : κ) : rowAt key (dropR key cs k) j = if j = k then none else rowAt key cs j := by
  unfold dropR
  induction cs with
  | nil => simp [rowAt_nil]
  | cons d ds ih =>
    by_cases e : key d = k
    · rw [List.filter_cons, if_neg (by simp [e]), ih]
      by_cases f : j = k
      · rw [if_pos f, if_pos f]
      · rw [if_neg f, if_neg f, rowAt_neg (fun z => f (z.symm.trans e))]
    · rw [List.filter_cons, if_pos (by simp [e])]
      by_cases g : key d = j
      · rw [rowAt_pos g, rowAt_pos g, if_neg (fun z => e (g.trans z))]
      · rw [rowAt_neg g, rowAt_neg g, ih]
theorem dropR_keys (cs : List α) (k : κ) (nd : (cs.map key).Nodup) : ((dropR key cs k).map key).Nodup := nd.sublist (List.Sublist.map key List.filter_sublist)
theorem RowsK.put {H : Hp} {kvs : List (κ × V)} {cs : List α} (r : RowsK key T H kvs cs) {c : α} {v : V} (h : T H c v) : RowsK key T H (putK kvs (key c) v) (putR key cs c) := by
  have ek : (kvs.any fun kv => decide (kv.1 = key c)) = (cs.any fun d => decide (key d = key c)) := by
    clear h
    induction r with
    | nil => rfl
    | cons hh _ ih => rw [List.any_cons, List.any_cons, hh.1, ih]
  unfold putK putR
  rw [ek]
  by_cases a : (cs.any fun d => decide (key d = key c)) = true
  · rw [if_pos a, if_pos a]
    clear a ek
    induction r with
    | nil => exact .nil
    | @cons kv d kvs cs hh r ih =>
      refine .cons ?_ ih
      dsimp only
      by_cases e : key d = key c
      · rw [if_pos (hh.1.trans e), if_pos e]
        exact ⟨hh.1.trans e, h⟩
      · rw [if_neg (fun z => e (hh.1.symm.trans z)), if_neg e]
        exact hh
  · rw [if_neg a, if_neg a]
    exact Paired.snoc' ⟨rfl, h⟩ r
theorem RowsK.drop {H : Hp} {kvs : List (κ × V)} {cs : List α} (r : RowsK key T H kvs cs) (k : κ) : RowsK key T H (dropK kvs k) (dropR key cs k) := by
  unfold dropK dropR
  induction r with
  | nil => exact .nil
  | @cons kv d kvs cs hh r ih =>
    by_cases e : key d = k
    · rw [List.filter_cons, List.filter_cons, if_neg (by simp [hh.1, e]), if_neg (by simp [e])]
      exact ih
    · rw [List.filter_cons, List.filter_cons, if_pos (by simp [hh.1, e]), if_pos (by simp [e])]
      exact .cons hh ih
end
/-! ### dict comprehensions -/
theorem take_nodup' {α : Type} {l : List α} (h : l.Nodup) {i : Nat} {x : α} (e : l[i]? = some x) : x ∉ l.take i := by
  intro m
  obtain ⟨j, hj⟩ := List.mem_iff_getElem?.mp m
  have hlt : j < i := by
    have := (List.getElem?_eq_some_iff.mp hj).1
    rw [List.length_take] at this
    omega
  rw [List.getElem?_take_of_lt hlt] at hj
  obtain ⟨a1, a2⟩ := List.getElem?_eq_some_iff.mp e
  obtain ⟨b1, b2⟩ := List.getElem?_eq_some_iff.mp hj
  have := (List.getElem_inj h).mp (a2.trans b2.symm)
  omega
def DcK (J : It) (g : TG) (tt : TT) (tk tv : TE) (vs : List Nat) (σ : L2.St) (Q : VK) (H1 : Hp) : Prop := ∀ D, H1 D = none → ∃ W : Nat → Nat → Hp → Prop, (∃ m, W 0 m (upd H1 D (.dK []))) ∧ ∀ i m H, W i m H →
  (J.stop i H ∧ Q (.ref D) H) ∨ (J.go i H ∧ ∃ Nx : Hp → Prop, (∀ H', Nx H' → ∃ m', m' < m ∧ W (i + 1) m' H') ∧ ∀ x H', J.yld i H x H' → g x (wipe σ vs) H' fun σ2 H2 => wipe σ2 vs = wipe σ vs ∧ tt σ2 H2 fun b H3 =>
    if b = true then tk σ2 H3 fun y H4 => tv σ2 H4 fun z H5 => ∃ kvs k, y = kV k ∧ H5 D = some (.dK kvs) ∧ kvs.length < sizeLine ∧ Nx (upd H5 D (.dK (putK kvs k z))) else Nx H3)
theorem k_dc {wi : TI} {g : TG} {tt : TT} {tk tv : TE} {vs : List Nat} {σ : L2.St} {H : Hp} {Q : VK} (h : wi σ H fun J H1 => DcK J g tt tk tv vs σ Q H1) : tDc wi g tt tk tv vs σ H Q := h
theorem dc_rows {J : It} {n : Nat} {G : Hp → Prop} {Y : Nat → Hp → V → Hp → Prop} (w : Walk J n G Y) {α : Type} {key : α → L2.Key} {T : Hp → α → V → Prop} {rows : List α} {g : TG} {tt : TT} {tk tv : TE} {vs : List Nat} {σ : L2.St} {H1 : Hp} {Q : VK}
    (hn : rows.length = n) (nd : (rows.map key).Nodup) (hz : n ≤ 100000) (hT : ∀ H H' c v, Ex H H' → T H c v → T H' c v) (hTd : ∀ H D kvs kvs' c v, H D = some (.dK kvs) → T H c v → T (upd H D (.dK kvs')) c v) (hG : ∀ H', Ex H1 H' → G H')
    (hs : ∀ i x H' H'' c (R1 : V → V → Hp → Prop) (R0 : Hp → Prop), rows[i]? = some c → Ex H1 H' → Y i H' x H'' → (∀ z H5, Ex H' H5 → T H5 c z → R1 (kV (key c)) z H5) →
      g x (wipe σ vs) H'' fun σ2 H2 => wipe σ2 vs = wipe σ vs ∧ tt σ2 H2 fun b H3 => if b = true then tk σ2 H3 fun y H4 => tv σ2 H4 fun z H5 => R1 y z H5 else R0 H3)
    (hd : ∀ D H' kvs, H1 D = none → Ex H1 H' → H' D = some (.dK kvs) → RowsK key T H' kvs rows → Q (.ref D) H') : DcK J g tt tk tv vs σ Q H1 := by
  intro D hD
  refine ⟨fun i m H' => m = n - i ∧ i ≤ n ∧ ∃ kvs, Ex H1 H' ∧ H' D = some (.dK kvs) ∧ RowsK key T H' kvs (rows.take i), ⟨n, by simp, Nat.zero_le _, [], Ex.new hD, upd_same, .nil⟩, ?_⟩
  rintro i m H' ⟨rfl, hi, kvs, e, hk, hr⟩
  have q := hG _ e
  by_cases hlt : i < n
  · obtain ⟨c, hc⟩ : ∃ c, rows[i]? = some c := ⟨rows[i]'(by omega), List.getElem?_eq_getElem (by omega)⟩
    refine .inr ⟨w.goes i H' hlt q, fun H2 => i + 1 ≤ n ∧ ∃ kvs, Ex H1 H2 ∧ H2 D = some (.dK kvs) ∧ RowsK key T H2 kvs (rows.take (i + 1)), fun H2 p' => ⟨n - (i + 1), by omega, rfl, p'⟩, fun x H2 y => hs i x H' H2 c _ _ hc e (w.yields i H' x H2 hlt q y) fun z H5 e5 t5 => ?_⟩
    have hk5 := e5.get hk
    have hr5 := RowsK.ex hT e5 hr
    have nin : rowAt key (rows.take i) (key c) = none := by
      refine rowAt_none' fun d hd e => ?_
      have : key c ∉ (rows.map key).take i := take_nodup' nd (by rw [List.getElem?_map, hc]; rfl)
      rw [← List.map_take] at this
      exact this (List.mem_map.mpr ⟨d, hd, e⟩)
    refine ⟨kvs, key c, rfl, hk5, by rw [hr.length, List.length_take, sizeLine_eq]; omega, hlt, putK kvs (key c) z, ExB.old (e.trans e5) hD ExB.upd, upd_same, ?_⟩
    have et : putR key (rows.take i) c = rows.take (i + 1) := by rw [putR_new nin, List.take_add_one, hc]; rfl
    have p := hr5.put t5
    rw [et] at p
    exact p.mono fun c v h => hTd _ _ _ _ _ _ hk5 h
  · have e2 : i = n := by omega
    subst e2
    rw [← hn, List.take_length] at hr
    exact .inl ⟨w.stops H' q, hd D H' kvs hD e hk hr⟩
/-! ### slices of tuples -/
theorem ix_tupK {X : Cx} {K : PySem.W.Frag} (h : X.K = K) : IxR X (rIxT K) := h ▸ ix_tup
theorem ix_listK {X : Cx} {K : PySem.W.Frag} (h : X.K = K) : IxR X (rIxL K) := h ▸ ix_list
theorem sl_tupK {X : Cx} {K : PySem.W.Frag} (h : X.K = K) : SlR X (rSlA K) := h ▸ sl_tupA
theorem k_slTA {K : PySem.W.Frag} {H : Hp} {Q : VK} {p : Addr} {xs : List V} {lo hi : Option Int} (hx : SqT K H p xs) (hw : ¬ (HT.sIx xs.length 0 lo = 0 ∧ HT.sIx xs.length xs.length hi = xs.length)) (q : ∀ l H1, H l = none → Ex H H1 → H1 l = some (.tup (cutV xs lo hi)) → Q (.ref l) H1) : rSlA K (.ref p) lo hi H Q :=
  ⟨p, xs, rfl, hx, fun z => absurd z hw, fun _ l n => q l _ n (Ex.new n) upd_same⟩
/-! ### an instance is written -/
section
variable {K : PySem.W.Frag} {H H' : Hp} {p a : Addr} {C dx : Addr} {fs : List (Str × V)} {xs : List V}
theorem ExB.sqL (b : ExB p H H') (hp : H p = some (.ins C dx fs)) (h : SqL K H a xs) : SqL K H' a xs := by
  rcases h with (h | ⟨o, h⟩) | h
  · exact .inl (.inl (b _ _ (ne_of h hp (fun z => nomatch z)) h))
  · exact .inl (.inr ⟨o, b _ _ (ne_of h hp (fun z => nomatch z)) h⟩)
  · exact .inr h
theorem ExB.sqT (b : ExB p H H') (hp : H p = some (.ins C dx fs)) (h : SqT K H a xs) : SqT K H' a xs := by
  rcases h with (h | ⟨o, h⟩) | h
  · exact .inl (.inl (b _ _ (ne_of h hp (fun z => nomatch z)) h))
  · exact .inl (.inr ⟨o, b _ _ (ne_of h hp (fun z => nomatch z)) h⟩)
  · exact .inr h
mutual
theorem Dp_exB (e : ExB p H H') (hp : H p = some (.ins C dx fs)) : ∀ (d : PyData) (v : V), Dp K H v d → Dp K H' v d
  | .none, _, h => by cases h; exact .non
  | .bool b, _, h => by cases h; exact .bl b
  | .int i, _, h => by cases h; exact .int i
  | .str x, _, h => by cases h; exact .str x
  | .list ds, _, h => by
    cases h with
    | lst hs ha => exact .lst (e.sqL hp hs) (DpAll_exB e hp ds _ ha)
  | .tuple ds, _, h => by
    cases h with
    | tup hs ha => exact .tup (e.sqT hp hs) (DpAll_exB e hp ds _ ha)
  | .dict _, _, h => by cases h
theorem DpAll_exB (e : ExB p H H') (hp : H p = some (.ins C dx fs)) : ∀ (ds : List PyData) (vs : List V), DpAll K H vs ds → DpAll K H' vs ds
  | [], _, h => by cases h; exact .nil
  | d :: ds, _, h => by
    cases h with
    | cons h1 h2 => exact .cons (Dp_exB e hp d _ h1) (DpAll_exB e hp ds _ h2)
end
/-- a field written: what stays -/
theorem k_sfldE {f : Str} {y : V} {R : Hp → Prop} (hp : H p = some (.ins C dx fs)) (c : Cls K C) (n : NoAttr K C f) (hl : fs.length < 1000) (q : ∀ H', ExB p H H' → H' p = some (.ins C dx (putF f y fs)) → R H') :
    ∃ a C dx fs, V.ref p = .ref a ∧ H a = some (.ins C dx fs) ∧ Cls K C ∧ NoAttr K C f ∧ fs.length < 1000 ∧ R (upd H a (.ins C dx (putF f y fs))) := ⟨p, C, dx, fs, rfl, hp, c, n, hl, q _ ExB.upd upd_same⟩
theorem k_fldE {f : Str} {R : V → Prop} {v : V} (hp : H p = some (.ins C dx fs)) (c : Cls K C) (n : NoAttr K C f) (l : fs.lookup f = some v) (q : R v) :
    ∃ a C dx fs v, V.ref p = .ref a ∧ H a = some (.ins C dx fs) ∧ Cls K C ∧ NoAttr K C f ∧ fs.lookup f = some v ∧ R v := ⟨p, C, dx, fs, v, rfl, hp, c, n, l, q⟩
end
theorem dstr (a b : Str) : decide (V.str a = V.str b) = decide (a = b) := by
  by_cases h : a = b
  · rw [decide_eq_true h, decide_eq_true (by rw [h])]
  · rw [decide_eq_false h, decide_eq_false (fun z => h (V.str.inj z))]
theorem dint (a b : Int) : decide (V.int a = V.int b) = decide (a = b) := by
  by_cases h : a = b
  · rw [decide_eq_true h, decide_eq_true (by rw [h])]
  · rw [decide_eq_false h, decide_eq_false (fun z => h (V.int.inj z))]
theorem dbl (a b : Bool) : decide (V.bl a = V.bl b) = decide (a = b) := by
  by_cases h : a = b
  · rw [decide_eq_true h, decide_eq_true (by rw [h])]
  · rw [decide_eq_false h, decide_eq_false (fun z => h (V.bl.inj z))]
theorem dref_non (a : Addr) : decide (V.ref a = V.non) = false := decide_eq_false fun z => nomatch z
theorem dint_non (a : Int) : decide (V.int a = V.non) = false := decide_eq_false fun z => nomatch z
theorem dnon_non : decide (V.non = V.non) = true := decide_eq_true rfl
/-! ### o.m(..) -/
theorem k_meth {C : Addr} {m : Str} {sp : Sp} {E : XK} {ta : TE} {t : TA} {σ : L2.St} {H : Hp} {Q : VK} (h : ta σ H fun x H1 => ∃ a dx fs, x = .ref a ∧ H1 a = some (.ins C dx fs) ∧ fs.lookup m = none ∧ t σ H1 fun vs H2 => sp (x :: (vs ++ [])) H2 Q E) : tMeth C m sp [] E ta t σ H Q := h
/-! ### C(..) -/
def MakeK (C : Addr) (sp : Sp) (E : XK) (Q : VK) (vs : List V) (H1 : Hp) : Prop := ∀ x dx, H1 x = none → H1 dx = none → dx ≠ x → sp (.ref x :: (vs ++ [])) (upd (upd H1 dx (.own x)) x (.ins C dx [])) (fun v H2 => v = .non ∧ Q (.ref x) H2) E
theorem k_make {C : Addr} {sp : Sp} {E : XK} {t : TA} {σ : L2.St} {H : Hp} {Q : VK} (h : t σ H fun vs H1 => MakeK C sp E Q vs H1) : tMake C sp [] E t σ H Q := h
theorem MakeK.of {C : Addr} {sp : Sp} {E : XK} {Q : VK} {vs : List V} {H1 : Hp} (h : ∀ x H2 dx, H1 x = none → Ex H1 H2 → H2 x = some (.ins C dx []) → sp (.ref x :: vs) H2 (fun v H3 => v = .non ∧ Q (.ref x) H3) E) : MakeK C sp E Q vs H1 := fun x dx hx hd hn => by
  rw [List.append_nil]
  exact h x _ dx hx ((Ex.new hd).trans (Ex.new (by rw [upd_ne (Ne.symm hn)]; exact hx))) upd_same
end L3
end

section
/-! Law-independent layer 5: own exceptions whose __init__(self, address) says super().__init__(f'..{address}'), self.address = address -/
namespace PySem
namespace SupX
open PySem.W PySem.HandSPX Calls PyProof.Rows PySem.Spec
def supB (pre : Str) (a1 a2 a3 a4 a5 a6 a7 a8 a9 a10 a11 a12 a13 : Pos) : List Stmt :=
  [.Expr (.Call (.Attribute (.Call (.Name "super" a1) [] [] a2) "__init__" a3) [.JoinedStr [.Constant (.str pre) 0 a4, .FormattedValue (.Name "address" a5) (-1) none a6] a7] [] a8) a9,
   .Assign [.Attribute (.Name "self" a10) "address" a11] (.Name "address" a12) a13]
def supS : Scope := { kind := .function, names := [("self", .local), ("address", .local), ("__class__", .free), ("super", .globalImplicit)], isGenerator := false, isCoroutine := false, more := [] }
def supA (p1 p2 : Pos) : Arguments := { posonlyargs := [], args := [{ arg := "self", annotation := none, pos := p1 }, { arg := "address", annotation := none, pos := p2 }], vararg := none, kwonlyargs := [], kw_defaults := [], kwarg := none, defaults := [] }
/-- the call stands on one line -/
def SupLine (pre : Str) (a1 a2 a3 a4 a5 a6 a7 a8 : Pos) : Prop := ∀ env : Env, ∃ pl : Sem Bool, eval (.Call (.Attribute (.Call (.Name "super" a1) [] [] a2) "__init__" a3) [.JoinedStr [.Constant (.str pre) 0 a4, .FormattedValue (.Name "address" a5) (-1) none a6] a7] [] a8) env = (do
      let ov ← attributeBase (.Call (.Name "super" a1) [] [] a2) "__init__" env (eval (.Call (.Name "super" a1) [] [] a2) env)
      standAt a3.atName
      let (f, first) ← holding [ov] (getMethod ov "__init__" pl)
      callWith a8 f first (backTo a8 (starEach [.JoinedStr [.Constant (.str pre) 0 a4, .FormattedValue (.Name "address" a5) (-1) none a6] a7] env)) [])
/-- what the written part says of such a class -/
structure SupTxt (P : Program) (K : Frag) (mg : Str → Option Value) (C : Addr) (x pre : Str) : Prop where
  gC : mg x = some (.ref C)
  cls : ∃ nm q N bs bm sn sub ab col dd k0 k1 k2 k3 k5, K.lookup C = some (excClassObj nm q C N bs bm true sn sub ab col dd k0 k1 k2 k3 k5 "ValueError.__new__") ∧ refsVE bm = true
  sa : findIn K (.ref C) "__setattr__" = some (some (.builtin "object.__setattr__"))
  noN : findIn K (.ref C) "address" = some none
  kC : keepIn K (.ref C) = true
  exC : subIn K (.ref C) (.type "BaseException") = some true
  veC : subIn K (.ref C) (.type "ValueError") = some true
  slf : mroIn K C (.ref C) = some true
  tyC : typeIn K (.ref C) = some (.type "type")
  sup : ks_superIn K C C "__init__" = some (some (.builtin "ValueError.__init__"))
  dead : nsIn K cStatics "thirdparty.any" = some none
  gs : mg "super" = none
  top : (P.main.scope.names.lookup ("super" : Str)).isSome = false
  fn : ∃ (fI cc cda : Addr) (oc : Value) (od : Option Addr) (doc pm : Value) (an : Option Addr) (ct : Value) (osl : Array (Option Value)) (p1 p2 a1 a2 a3 a4 a5 a6 a7 a8 a9 a10 a11 a12 a13 : Pos) (vs : Array Value) (file : Str) (tf : Tok) (ccl : Value) (cdd : Option Addr) (ccs : Array (Option Value)) (cl : Value) (cld : Option Addr) (csl : Array (Option Value)) (qual : Str),
    findIn K (.ref C) "__init__" = some (some (.ref fI)) ∧ typeIn K (.ref fI) = some (.type "function") ∧
    K.lookup fI = some ⟨oc, od, .func (ksFn "__init__" qual (supA p1 p2) (supB pre a1 a2 a3 a4 a5 a6 a7 a8 a9 a10 a11 a12 a13) supS .none .none doc pm an (.ref cda) ct cc), osl⟩ ∧ codeIn K (.ref cda) qual = true ∧
    K.lookup cda = some ⟨ccl, cdd, .fields vs, ccs⟩ ∧ vs[2]? = some (.str file tf) ∧ ((P.main.file : Str) == file) = true ∧ K.lookup cc = some ⟨cl, cld, .cell (some (.ref C)), csl⟩ ∧ SupLine pre a1 a2 a3 a4 a5 a6 a7 a8
/-- what __init__ leaves of a fresh exception at x -/
structure InitEnd (h h' : Heap) (x C dx t1 : Addr) (v : Value) : Prop where
  keep : ∀ b o, b ≠ x → h.get? b = some o → h'.get? b = some o
  obj : h'.get? x = some { cls := .ref C, dict := some dx, data := .fields #[.ref t1, .none, .none, .none, .bool false, .none] }
  dbig : h.objs.size ≤ dx
  dne : dx ≠ x
  ns : h'.Ns1 dx (fun y => if y = "address" then some v else none)
theorem ldS {M : Model} {s : Shared} {name : Str} {scope : Scope} {L a : Addr} {cd : Value} {cells : List (Str × Addr)} {m : Str → Option Value} {x : Str} {pos : Pos} {v : Value} {Q : Value → Shared → Prop} {A : Around} {E : Value → Shared → Prop} (hn : s.heap.Ns L m) (hv : m x = some v) (h : Q v s)
    (hk : scope.kind = .function := by rfl) (hl : (envX name scope L a cd cells).kindOf x = some .local := by rfl) (hd : (x == ("__debug__" : Str)) = false := by decide) :
    wpAny M A (eval (.Name x pos) (envX name scope L a cd cells)) Q E s := wpAny_Name (wpAny_loadName_local hk hl hn hv h) hd
section
variable {prog : Program} {w : World} {A : Around} {E : Value → Shared → Prop} {R : Result → Shared → Prop} {s : Shared} {K : Frag} {mg : Str → Option Value} {C : Addr} {x pre : Str} {base : Heap}
/-- the bound __init__ of ValueError called -/
theorem call_mw {h : Heap} {g : Array GenState} {d : Drawn} {t : Nat} {os : OsState} {u e t0 : Addr} {rest : List Value} {Q : Value → Shared → Prop} {nm q : Str} {C N : Addr} {bs bm : List Value} {sn : List Str} {sub : List Value} {ab : Bool} {col : Option Bool} {dd : Option Addr} {k0 k1 k2 k3 k5 : Option Value}
    (hu : h.get? u = some (kxs_mw "ValueError.__init__" e)) (hC : h.get? C = some (excClassObj nm q C N bs bm true sn sub ab col dd k0 k1 k2 k3 k5 "ValueError.__new__")) (he : h.get? e = some (excO C t0)) (hz : rest.length ≤ sizeLine)
    (hq : ∀ h' t1, (∀ b o, b ≠ e → h.get? b = some o → h'.get? b = some o) → h'.get? e = some (excO C t1) → Q .none ⟨h', g, d, t, os⟩) :
    wpAny (model prog w) A (call (.ref u) rest) Q E ⟨h, g, d, t, os⟩ := by
  refine wpAny_call (codeAny_of_tree ?_)
  show wpAny _ A.in1 (callAny (.ref u) ⟨rest, []⟩) _ _ _
  simp only [callAny]
  refine wpAny_bind (wpAny_load hu ?_)
  simp only [kxs_mw, show (Value.type "method-wrapper" == Value.type "method" || Value.type "method-wrapper" == Value.type "builtin_function_or_method" || Value.type "method-wrapper" == Value.type "method-wrapper") = true by decide, if_true]
  refine KFB.if_so (by decide) ?_
  refine wpAny_bind (check_bound_init F.excBase_ValueError.toExcCallFacts hC he rfl ?_)
  refine wpAny_bind (wpAny_pure (wpAny_pure ?_))
  refine ⟨plainId_quiet F.excBase_ValueError.init.plain _, codeAny_builtin F.excBase_ValueError.initEntry ?_⟩
  exact exc_init_tree (cls := .ref C) (t0 := t0) (dv := none) (c2 := .none) (c3 := .none) (b4 := .bool false) he hz fun h' k e' _ => hq h' _ k e'
theorem sup_init (T : SupTxt prog K mg C x pre) (M : L2.Mod K mg base) {i : Int} {tk0 : Tok} {xe t0 fI : Addr} (bk : ∀ b o, base.get? b = some o → s.heap.get? b = some o) (hlim : s.heap.NoLimit) (hx : s.heap.get? xe = some (excO C t0)) (hnx : base.get? xe = none) (hroom : A.depth < recursionLimit)
    (hf : findIn K (.ref C) "__init__" = some (some (.ref fI))) (hi : i.natAbs.log2 < 1920) (hpre : pre.length ≤ 1000)
    (hq : ∀ h' tk dx t1, InitEnd s.heap h' xe C dx t1 (.int i tk0) → R (.ok (.ret .none)) { s with heap := h', toks := tk }) :
    codeAny (model prog w) A (.call (.ref fI) ⟨[.ref xe, .int i tk0], []⟩) R s := by
  obtain ⟨fI', cc, cda, oc, od, doc, pm, an, ct, osl, p1, p2, a1, a2, a3, a4, a5, a6, a7, a8, a9, a10, a11, a12, a13, vs, file, tf, ccl, cdd, ccs, cl, cld, csl, qual, g1, g2, g3, g4, g5, g6, g7, g8, gL⟩ := T.fn
  obtain rfl : fI = fI' := by
    rw [hf] at g1
    exact Value.ref.inj (Option.some.inj (Option.some.inj g1))
  obtain ⟨nm, q, N, bs, bm, sn, sub, ab, col, dd, k0, k1, k2, k3, k5, hC, hbm⟩ := T.cls
  have hcl : clsIn K C = some { name := nm, bases := bs, mro := .ref C :: bm, ns := N, qualname := q, hasDict := true, slotNames := sn, subclasses := sub, abstract := ab, collection := col, hasDel := false } := by unfold clsIn; rw [hC] <;> rfl
  have X : K.In s.heap := M.kin.keeps bk
  refine ks_codeAny_call_defAt (fd := ksFn "__init__" qual (supA p1 p2) (supB pre a1 a2 a3 a4 a5 a6 a7 a8 a9 a10 a11 a12 a13) supS .none .none doc pm an (.ref cda) ct cc) (body := supB pre a1 a2 a3 a4 a5 a6 a7 a8 a9 a10 a11 a12 a13) (binds := [("self", .ref xe), ("address", .int i tk0)])
    hroom (X _ _ g3) rfl hlim (codeRec_of X g4) rfl (BindsTo.of_eq (by first | rfl | with_unfolding_all rfl)) (show ∀ x ∈ supS.names, x.2 ≠ .cell by decide) (fun y hy => by
      rcases List.mem_cons.mp hy with rfl | hy
      · with_unfolding_all rfl
      · rcases List.mem_cons.mp hy with rfl | hy
        · with_unfolding_all rfl
        · cases hy) (fun h₁ hn k => ?_) rfl rfl rfl
  have X₁ : K.In h₁ := X.keeps k
  have hx₁ := k _ _ hx
  have bk₁ : ∀ b o, base.get? b = some o → h₁.get? b = some o := fun b o e => k b o (bk b o e)
  obtain ⟨pl, he⟩ := gL (ksEnv qual supS s.heap.objs.size fI (.ref cda) cc)
  have hsub : Looks (model prog w) h₁ (isSubtype (.ref C) (.ref C)) true := looks_mroIn X₁ T.slf
  have hI : Looks (model prog w) h₁ (isInstance (.ref xe) (.type "ValueError")) true := by
    have I : InstAt h₁ xe (excO C t0) C none := ⟨hx₁, rfl, rfl, trivial⟩
    exact I.type.andThen (looks_subIn X₁ T.veC)
  obtain ⟨mb, hb1, hb2⟩ := M.blt
  refine ks_wpAt_execs_cons (ks_wpAt_Expr_any (ks_wpAt_MethodCall ?_ he))
  refine ks_wpAt_super_base (env := ksEnv qual supS s.heap.objs.size fI (.ref cda) cc) (by with_unfolding_all rfl) (by with_unfolding_all rfl) (by decide) rfl (X₁ _ _ g3) rfl rfl rfl (X₁ _ _ g5) rfl g6 g7 T.top ?_
  refine ks_loadName_global rfl (by with_unfolding_all rfl) (loadGlobal_builtin (env := ksEnv qual supS s.heap.objs.size fI (.ref cda) cc) (M.glob.keeps bk₁) T.gs (hb1.keeps bk₁) ((hb2 _ (by decide)).trans (show bootBuiltins "super" = some (.type "super") by decide +kernel)) ⟨rfl, ?_⟩)
  refine wpAny_loadName_free (env := ksEnv qual supS s.heap.objs.size fI (.ref cda) cc) rfl (by with_unfolding_all rfl) rfl ⟨_, X₁ _ _ g8, rfl⟩ ?_
  refine wpAny_loadName_local (v := .ref xe) rfl (by with_unfolding_all rfl) hn (by with_unfolding_all rfl) ?_
  have hCh := X₁ _ _ hC
  refine ks_wpAny_isType_cls hCh rfl ⟨rfl, ?_⟩
  refine ks_wpAny_call_super hCh rfl hx₁ rfl (fun c e => nomatch e) hsub (fun h₂ e₂ k₂ => ?_)
  have X₂ : K.In h₂ := X₁.keeps k₂
  have hsup := T.sup
  unfold ks_superIn at hsup
  rw [hcl] at hsup
  have hne : xe ≠ C := fun z => by
    rw [z, hCh] at hx₁
    cases hx₁
  refine kxs_getMethod kxs_ValueError e₂ (looks_opaque X₂ T.dead) (l₀ := .ref C :: bm) (fun A Q E s k q => wpAny_bind ((looks_clsIn X₂ hcl) A _ E s k (wpAny_pure q))) rfl X₂ hsup (hI.keeps k₂) hne (by decide) ?_
  -- the argument
  have em : ∀ (b : Addr) (o : Obj), h₂.get? b = some o → (h₂.push (kxs_mw "ValueError.__init__" xe)).get? b = some o := fun b o e => Heap.get?_push_of_some _ e
  have emw : (h₂.push (kxs_mw "ValueError.__init__" xe)).get? h₂.objs.size = some (kxs_mw "ValueError.__init__" xe) := Heap.get?_push_at rfl rfl
  have hn₃ : (h₂.push (kxs_mw "ValueError.__init__" xe)).Ns s.heap.objs.size (fun x => [(("self" : Str), Value.ref xe), (("address" : Str), Value.int i tk0)].reverse.lookup x) := (hn.keeps k₂).keeps em
  have hx₃ := em _ _ (k₂ _ _ hx₁)
  have X₃ : K.In (h₂.push (kxs_mw "ValueError.__init__" xe)) := X₂.keeps em
  have k₃ : ∀ b o, s.heap.get? b = some o → (h₂.push (kxs_mw "ValueError.__init__" xe)).get? b = some o := fun b o e => em _ _ (k₂ _ _ (k _ _ e))
  have hsz : h₂.objs.size < (h₂.push (kxs_mw "ValueError.__init__" xe)).objs.size := by rw [Heap.size_push]; exact Nat.lt_succ_self _
  generalize h₂.push (kxs_mw "ValueError.__init__" xe) = h₃ at em emw hn₃ hx₃ X₃ k₃ hsz
  have hlen := int_text_length_le (k := 1920) (by decide) hi
  have hA : (Str.empty ++ pre).length ≤ sizeLine := by rw [Str.length_append, sizeLine_eq]; show 0 + _ ≤ _; omega
  have hB : (Str.empty ++ pre ++ Str.ofString (toString i)).length ≤ sizeLine := by rw [Str.length_append, Str.length_append, ofString_length, sizeLine_eq]; show 0 + _ + _ ≤ _; omega
  refine kxs_callWith (i := "ValueError.__init__") (x := xe) rfl (evalArgs_plain (spliced_cons (wpAny_JoinedStr (pos := a7) ?_)))
  refine wpAny_Constant_str (k := 0) (pos := a4) ⟨pre, _, rfl, hA, wpAny_FormattedValue_plain (pos := a6) (ldS (pos := a5) (v := .int i tk0) hn₃ (by with_unfolding_all rfl) (wpAny_formatField_int hi ⟨_, _, rfl, hB, ⟨hB, spliced_nil ⟨emw, ?_⟩⟩⟩) rfl (by with_unfolding_all rfl))⟩
  refine call_mw emw (X₃ _ _ hC) hx₃ (show 1 ≤ sizeLine by rw [sizeLine_eq]; decide) (fun h₄ t1 k₄ hx₄ => ?_)
  -- self.address = address
  have notX : ∀ b o, K.lookup b = some o → b ≠ xe := fun b o e z => by
    have := M.kin _ _ e
    rw [z, hnx] at this
    cases this
  have X₄ : K.In h₄ := fun b o e => k₄ b o (notX b o e) (X₃ b o e)
  have hLx : s.heap.objs.size ≠ xe := Nat.ne_of_gt (Heap.lt_size hx)
  obtain ⟨oL, es, ep, hL, hLr⟩ := hn₃
  have hn₄ : h₄.Ns s.heap.objs.size (fun x => [(("self" : Str), Value.ref xe), (("address" : Str), Value.int i tk0)].reverse.lookup x) := ⟨oL, es, ep, k₄ _ _ hLx hL, hLr⟩
  refine ks_wpAt_execs_cons (ks_wpAt_Assign_Attr ?_)
  have e1 : (fun x => [(("self" : Str), Value.ref xe), (("address" : Str), Value.int i tk0)].reverse.lookup x) "address" = some (.int i tk0) := by with_unfolding_all rfl
  have e2 : (fun x => [(("self" : Str), Value.ref xe), (("address" : Str), Value.int i tk0)].reverse.lookup x) "self" = some (.ref xe) := by with_unfolding_all rfl
  have e3 : (ksEnv qual supS s.heap.objs.size fI (.ref cda) cc).kindOf "address" = some .local := by with_unfolding_all rfl
  have e4 : (ksEnv qual supS s.heap.objs.size fI (.ref cda) cc).kindOf "self" = some .local := by with_unfolding_all rfl
  refine wpAt_of_wpAny ?_
  refine ldS hn₄ e1 ?_ (show supS.kind = .function from rfl) e3
  refine ldS hn₄ e2 ?_ (show supS.kind = .function from rfl) e4
  refine set_plain X₄ (ox := excO C t1) (od := none) ⟨hx₄, rfl, rfl, trivial⟩ T.sa ?_
  refine exc_osa X₄ hx₄ hcl (show refsVE (.ref C :: bm) = true from hbm) rfl T.noN (fun h₅ tk₅ dx k₅ dn dne hx₅ hn₅ => ?_)
  refine wpAt_of_wpAny (wpAny_execs_nil (hq h₅ tk₅ dx t1 ⟨fun b o hb e => k₅ b o hb (k₄ b o hb (k₃ b o e)), hx₅, ?_, dne, hn₅⟩))
  have z : s.heap.objs.size < h₄.objs.size := hn₄.lt
  exact Nat.le_of_lt (Nat.lt_of_lt_of_le z dn)
end
end SupX
end PySem
end

section
/-! Law-independent layer 6: such an exception made, raised -/
namespace PySem
namespace SupX
open PySem.W PySem.HandSPX Calls PyProof.Rows PySem.Spec
theorem one_size (v : Value) : [v].length ≤ sizeLine := by
  rw [sizeLine_eq]
  exact (by decide : 1 ≤ 16777216)
structure OwnMade (h h' : Heap) (e C d : Addr) (v : Value) : Prop where
  keep : ∀ b o, h.get? b = some o → h'.get? b = some o
  new : h.objs.size ≤ e
  obj : ∃ t1 : Addr, h'.get? e = some { cls := .ref C, dict := some d, data := .fields #[.ref t1, .none, .none, .none, .bool false, .none] }
  dbig : h.objs.size ≤ d
  dne : d ≠ e
  ns : h'.Ns1 d (fun y => if y = "address" then some v else none)
section
variable {prog : Program} {w : World} {A : Around} {E : Value → Shared → Prop} {R : Result → Shared → Prop} {s : Shared} {K : Frag} {mg : Str → Option Value} {C : Addr} {x pre : Str} {base : Heap}
theorem sup_made (T : SupTxt prog K mg C x pre) (M : L2.Mod K mg base) {i : Int} {tk0 : Tok} (bk : ∀ b o, base.get? b = some o → s.heap.get? b = some o) (hlim : s.heap.NoLimit) (hroom : A.depth + 1 < recursionLimit) (hi : i.natAbs.log2 < 1920) (hpre : pre.length ≤ 1000)
    (hq : ∀ h' tk e d, OwnMade s.heap h' e C d (.int i tk0) → R (.ok (.ret (.ref e))) { s with heap := h', toks := tk }) :
    codeAny (model prog w) A (.call (.ref C) ⟨[.int i tk0], []⟩) R s := by
  obtain ⟨nm, q, N, bs, bm, sn, sub, ab, col, dd, k0, k1, k2, k3, k5, hC, hbm⟩ := T.cls
  obtain ⟨fI, cc, cda, oc, od, doc, pm, an, ct, osl, p1, p2, a1, a2, a3, a4, a5, a6, a7, a8, a9, a10, a11, a12, a13, vs, file, tf, ccl, cdd, ccs, cl, cld, csl, qual, g1, g2, g3, g4, g5, g6, g7, g8, gL⟩ := T.fn
  have X : K.In s.heap := M.kin.keeps bk
  obtain ⟨hp, g, dr, tk, os⟩ := s
  have k : ∀ b o, hp.get? b = some o → ((hp.push (kdv_tup [Value.int i tk0])).push (excO C hp.objs.size)).get? b = some o := fun b o e => Heap.get?_push_of_some _ (Heap.get?_push_of_some _ e)
  have hget : ((hp.push (kdv_tup [Value.int i tk0])).push (excO C hp.objs.size)).get? (hp.objs.size + 1) = some (excO C hp.objs.size) := by heap_get
  have hnx : base.get? (hp.objs.size + 1) = none := by
    cases e : base.get? (hp.objs.size + 1) with
    | none => rfl
    | some o =>
      have z : hp.get? (hp.objs.size + 1) = some o := bk _ _ e
      exact absurd (Nat.lt_of_succ_lt (Heap.lt_size z)) (Nat.lt_irrefl _)
  refine call_own F.excBase_ValueError (fun X => refsVE_contains X bm hbm) (X _ _ hC) (looks_findIn X g1) (fun self => bind_fn X self g2) (one_size _) ?_
  refine sup_init (s := ⟨(hp.push (kdv_tup [Value.int i tk0])).push (excO C hp.objs.size), g, dr, tk, os⟩) T M (fun b o e => k b o (bk b o e)) (hlim.keeps k) hget hnx ?_ g1 hi hpre fun h' tk' dx t1 ⟨k', hx, dn, dne, hns⟩ => ?_
  · show A.depth + 1 < recursionLimit
    exact hroom
  · have old : ∀ b o, hp.get? b = some o → h'.get? b = some o := fun b o e => k' b o (Nat.ne_of_lt (Nat.lt_succ_of_lt (Heap.lt_size e))) (k b o e)
    have z : hp.objs.size + 1 + 1 ≤ dx := by
      first
        | (simpa only [Heap.size_push] using dn)
        | exact dn
        | (have q := dn; rw [Heap.size_push, Heap.size_push] at q; exact q)
    exact ⟨rfl, hq h' tk' (hp.objs.size + 1) dx ⟨old, Nat.le_succ _, ⟨t1, hx⟩, Nat.le_trans (Nat.le_trans (Nat.le_succ _) (Nat.le_succ _)) z, dne, hns⟩⟩
end
end SupX
end PySem
namespace L3
open PySem PySem.Spec PyProof.Rows L2
/-- the dict of such an exception -/
def xdA (i : Int) : HO := .xd [(("address" : Str), V.int i)]
theorem relO_addr {v : V} {v' : Value} (r : RelV v v') (f : Str) : RelO (List.lookup f [(("address" : Str), v)]) (if f = "address" then some v' else none) := by
  by_cases hw : f = "address"
  · subst hw
    rw [if_pos rfl]
    have q : List.lookup ("address" : Str) [(("address" : Str), v)] = some v := by simp [List.lookup]
    rw [q]
    exact r
  · rw [if_neg hw]
    have qw : (f == ("address" : Str)) = false := by simpa using hw
    have q2 : List.lookup f [(("address" : Str), v)] = none := by simp [List.lookup, qw]
    rw [q2]
    trivial
section
variable {X : Cx} {C : Addr} {x pre : Str}
/-- C(e) -/
def tMkSup (C : Addr) (ta : TA) : L2.St → Hp → XK → Prop := fun σ H Q => ta σ H fun vs H1 => ∃ i : Int, vs = [V.int i] ∧ i.natAbs.log2 < 1920 ∧ ∀ d, H1 d = none → Q (.ref C) (some d) (upd H1 d (xdA i))
theorem pmk_sup {a : Expr} {ta : TA} {p pos : Pos} {k : Nat} (T : PySem.SupX.SupTxt X.prog X.K X.mg C x pre) (hpre : pre.length ≤ 1000) (hr : Room k X.A) (ha : PA X [a] ta) (hg : Gl X x := by rfl) (hdb : (x == ("__debug__" : Str)) = false := by decide)
    (he : starEach (a :: []) X.env = (false, eval a X.env) :: starEach [] X.env := by rfl) (hpl : (backTo pos (starEach [] X.env)).any (·.1) = false := by rfl) :
    L2N.PMk X (.Call (.Name x p) [a] [] pos) (tMkSup C ta) := by
  intro pins s σ H Q I h
  refine wpAny_Call_Name_kw (ld_glob I hg T.gC ?_ hdb)
  refine PySem.W.callWith_K (h₀ := X.base) I.ok.mod.kin T.kC (thn (ha.run pos pins s σ H _ I h) fun us s1 hh => ?_) he hpl
  obtain ⟨vs, H1, I1, r1, i, ev, hi, q1⟩ := hh
  subst ev
  refine ⟨I1.kIn, ?_⟩
  cases r1 with
  | cons rv rn =>
    rename_i v' us'
    cases rn
    obtain ⟨tk0, rfl⟩ := rv
    show wpAny _ _ (call (.ref C) [.int i tk0]) _ _ _
    have hlim := I1.nolimit
    have bk := I1.bk
    have md := I1.mod
    obtain ⟨hp, g, dr, tk, os⟩ := s1
    refine wpAny_call (PySem.SupX.sup_made T md bk hlim (by have := hr.dp; show X.A.depth + 1 < _; omega) hi hpre fun h' tk' e d M => ?_)
    show L2N.MkP X pins σ Q (.ref e) ⟨h', g, dr, tk', os⟩
    obtain ⟨t1, hoe⟩ := M.obj
    have hns := M.ns
    obtain ⟨G', g1, g2⟩ := restrict h' fun b => decide (b ≠ e)
    have gk : ∀ b, b ≠ e → G'.get? b = h'.get? b := fun b hb => g1 b (decide_eq_true hb)
    have ge : G'.get? e = none := g2 e (by simp)
    have old : ∀ b o, hp.get? b = some o → G'.get? b = some o := fun b o q => (gk b (Nat.ne_of_lt (Nat.lt_of_lt_of_le (Heap.lt_size q) M.new))).trans (M.keep b o q)
    have ob : ObjOk X.prog X.w (upd H1 d (xdA i)) G' d (xdA i) :=
      ⟨_, hns.at (fun o q => (gk d M.dne).trans q), fun f => relO_addr (v := .int i) ⟨tk0, rfl⟩ f⟩
    have J : Inv X pins σ (upd H1 d (xdA i)) ⟨G', g, dr, tk', os⟩ := I1.laid (t' := tk') old M.dbig ob
    refine ⟨e, _, _, ⟨G', g, dr, tk', os⟩, _, .ref C, some d, rfl, J, fun b o q => ?_, ge, hoe, ⟨rfl, rfl, fun vs e => by cases e; rfl⟩, rfl, rfl, ?_, rfl, I1.bare, raises_own T.exC T.tyC, q1 d (I1.hok.fresh M.dbig)⟩
    · by_cases hb : b = e
      · have q' : G'.get? b = some o := q
        rw [hb, ge] at q'; cases q'
      · exact (gk b hb).symm.trans q
    · rw [upd_ne (Ne.symm M.dne)]
      exact I1.hok.fresh M.new
end
end L3
namespace L3
open PySem PySem.Spec PyProof.Rows L2
/-- C(), C without an __init__ of its own -/
theorem pmk_own0 {X : Cx} {C : Addr} {bmB : List Value} {B newId initId : String} {x : Str} {p pos : Pos} (F : ExcBaseFacts B newId initId bmB) (q : PySem.W.excIn X.K C bmB newId = true) (gC : X.mg x = some (.ref C)) (kC : PySem.W.keepIn X.K (.ref C) = true) (r : Raises X (.ref C)) (hg : Gl X x)
    (hdb : (x == ("__debug__" : Str)) = false := by decide) : L2N.PMk X (.Call (.Name x p) [] [] pos) (fun _ H Q => Q (.ref C) none H) := by
  intro pins s σ H Q I h
  refine wpAny_Call_Name_kw (ld_glob I hg gC ?_ hdb)
  refine PySem.W.callWith_K0 I.kIn kC ?_
  show wpAny _ _ (call (.ref C) []) _ _ _
  obtain ⟨bm, N, nm, qn, bs, hdct, sn, sub, ab, col, dd, k0, k1, k2, k3, k5, mN, hC, hN, hni, T⟩ := exc_obj I.kIn q
  refine wpAny_call_exc_subT F T hC hN hni (fun h' e hm => ?_) (by show 0 ≤ sizeLine; exact Nat.zero_le _)
  exact L2N.mk_of I hm r h (I.hok.gone hm.new)
end L3
end

section
/-! Law-independent layer 7: operators of own classes -/
namespace L3
open PySem PySem.Spec PyProof.Rows L2
section
variable {X : Cx} {CX : CXT} {k j : Nat} {C : Addr} {m : Str} {ps : List Str} {sp : Sp} {E : XK}
def rOwn (C : Addr) (sp : Sp) (E : XK) (ok : V → Prop) : R2 := fun x y H Q => ∃ a b dx dy fs gs, x = V.ref a ∧ y = V.ref b ∧ H a = some (.ins C dx fs) ∧ H b = some (.ins C dy gs) ∧ sp [.ref a, .ref b] H (fun v H' => ok v ∧ Q v H') E
def isRef (v : V) : Prop := ∃ a, v = .ref a
def isBl (v : V) : Prop := ∃ b, v = .bl b
theorem own_call {ok : V → Prop} (hok : ∀ v u, ok v → RelV v u → u ≠ .notImplemented) (cm : Met X.prog X.w X.K X.mg X.base CX k C m ps sp) (hr : Room j X.A) (hk : k ≤ j) (hx : Passes CX X E) {pins : List (Addr × Obj)} {s : Shared} {σ : L2.St} {H : Hp} {Q : VK} {a b : Addr} (I : Inv X pins σ H s)
    (h : sp [.ref a, .ref b] H (fun v H' => ok v ∧ Q v H') E) :
    ∃ f, Meth X.K C m f ∧ wpAny (model X.prog X.w) X.A (call (.ref f) [.ref a, .ref b]) (PySem.W.CmpBack (EP X pins σ Q)) X.xe s := by
  obtain ⟨f, fd, F, M, hb⟩ := cm.ok
  refine ⟨f, M, ?_⟩
  have hl := F.len _ _ _ _ h
  have r2 : Vals [V.ref a, V.ref b] [Value.ref a, Value.ref b] := .cons rfl (.cons rfl .nil)
  refine wpAny_call (codeAny_mono (F.run X.A X.stack s H ⟨[.ref a, .ref b], []⟩ [.ref a, .ref b] [.ref a, .ref b] _ E (hr.mono hk) I.env0 (by
    have := hb s [.ref a, .ref b] I.kIn (by simpa using hl)
    simpa using this) r2 h) fun r s' hq => ?_)
  cases r with
  | error e => exact hx pins σ H s e s' I hq
  | ok fl =>
    cases fl with
    | ret w =>
      obtain ⟨z, H', I', rz, oz, q⟩ := I.after hq
      have hn := hok z w oz rz
      have fin : EP X pins σ Q w s' := ⟨z, H', I', rz, q⟩
      cases w <;> first | exact absurd rfl hn | exact fin
    | next => exact False.elim hq
    | brk => exact False.elim hq
    | cont => exact False.elim hq
theorem isRef_ok (v : V) (u : Value) (h : isRef v) (r : RelV v u) : u ≠ .notImplemented := by
  obtain ⟨a, rfl⟩ := h
  cases r
  exact fun e => nomatch e
theorem isBl_ok (v : V) (u : Value) (h : isBl v) (r : RelV v u) : u ≠ .notImplemented := by
  obtain ⟨a, rfl⟩ := h
  cases r
  exact fun e => nomatch e
theorem op_own {op : Operator} (cm : Met X.prog X.w X.K X.mg X.base CX k C (PySem.dunder op.info.2) ps sp) (sf : PySem.W.selfFirst X.K C = true) (hr : Room j X.A) (hk : k ≤ j) (hx : Passes CX X E) : OpR X (binaryOp op) (rOwn C sp E isRef) := by
  intro pins s σ H x y v u Q I rx ry h
  obtain ⟨a, b, dx, dy, fs, gs, rfl, rfl, ha, hb, h⟩ := h
  cases rx
  cases ry
  obtain ⟨mA, J, _⟩ := ins_get I.hok ha
  obtain ⟨mB, J', _⟩ := ins_get I.hok hb
  obtain ⟨od, J, _⟩ := J.look
  obtain ⟨od', J', _⟩ := J'.look
  obtain ⟨m, hF⟩ := I.fr
  obtain ⟨f, M, hc⟩ := own_call isRef_ok cm hr hk hx I h
  exact PySem.W.binop_K hF I.ok.mod.kin J J'.type sf M.at_ M.fn hc
theorem op_ownEq (cm : Met X.prog X.w X.K X.mg X.base CX k C "__eq__" ps sp) (hr : Room j X.A) (hk : k ≤ j) (hx : Passes CX X E) : OpR X (compareOp .Eq) (rOwn C sp E isBl) := by
  intro pins s σ H x y v u Q I rx ry h
  obtain ⟨a, b, dx, dy, fs, gs, rfl, rfl, ha, hb, h⟩ := h
  cases rx
  cases ry
  obtain ⟨mA, J, _⟩ := ins_get I.hok ha
  obtain ⟨mB, J', _⟩ := ins_get I.hok hb
  obtain ⟨od, J, _⟩ := J.look
  obtain ⟨od', J', _⟩ := J'.look
  obtain ⟨m, hF⟩ := I.fr
  obtain ⟨f, M, hc⟩ := own_call isBl_ok cm hr hk hx I h
  show wpAny (model X.prog X.w) X.A (richCompare .Eq (.ref a) (.ref b)) (EP X pins σ Q) X.xe s
  exact PySem.W.cmp_K (op := .Eq) (tb := .ref C) hr.units0 hF I.ok.mod.kin J J'.type (by simp [PySem.W.notFirst]) M.at_ M.fn hc
end
end L3
namespace L3
open PySem PySem.Spec PyProof.Rows L2
/-- a property, packed -/
structure Prp (P : Program) (w : World) (K : PySem.W.Frag) (mg : Str → Option Value) (base : Heap) (CX : CXT) (k : Nat) (C : Addr) (m : Str) (ps : List Str) (sp : Sp) : Prop where
  ok : ∃ p g fd, PropOf K C m p g ∧ FnOk P w K mg base CX k g fd ps sp ∧ Binds K fd ps []
theorem pe_prp {X : Cx} {CX : CXT} {k j : Nat} {C : Addr} {m : Str} {ps : List Str} {sp : Sp} {E : XK} {e : Expr} {ta : TE} {pos : Pos} (he : PE X e ta) (c : Cls X.K C) (pr : Prp X.prog X.w X.K X.mg X.base CX k C m ps sp) (hr : Room j X.A) (hk : k + 1 ≤ j) (hx : Passes CX X.nox E)
    (hab : attributeBase e m X.env (eval e X.env) = eval e X.env) : PE X (.Attribute e m pos) (tProp C sp [] E ta) := by
  obtain ⟨p, g, fd, hp, F, hb⟩ := pr.ok
  exact pe_prop he c hp F (hr.mono hk) hb .nil hx hab
theorem k_prop {C : Addr} {sp : Sp} {E : XK} {ta : TE} {σ : L2.St} {H : Hp} {Q : VK} (h : ta σ H fun x H1 => ∃ a dx fs, x = .ref a ∧ H1 a = some (.ins C dx fs) ∧ sp [.ref a] H1 Q E) : tProp C sp [] E ta σ H Q := h
end L3
end

section
/-! Law-independent layer 8: a Hook that tells functions at any address too (an exception's __init__ with its closure, a property's getter), and the class statics -/
namespace L3
open PySem PySem.Spec PyProof.Rows L2 He
abbrev FnS : Type := Option (Str × Str × Arguments × FuncBody × Scope × Addr × List Str × Addr)
def fnS (K : PySem.W.Frag) (a : Addr) : FnS := match K.lookup a with
  | some ⟨_, _, .func fd, _⟩ => some (fd.name, fd.qualname, fd.params, fd.body, fd.scope, fd.globals, fd.closure.map (·.1), fd.builtins)
  | _ => none
/-- a function: where it stands, its text, the names it closes over -/
structure Sd where
  at_ : PySem.W.Frag → Addr
  name : Str
  qual : Str
  params : Arguments
  body : List Stmt
  scope : Scope
  cl : List Str
def Sd.val (d : Sd) : FnS := some (d.name, d.qual, d.params, .stmts d.body, d.scope, mainGlobals, d.cl, builtinsNs)
def asS (g : Addr → Option Obj) (n : Nat) : List Addr := cStatics :: asD g n
def frS (g : Addr → Option Obj) (n : Nat) : PySem.W.Frag := frG g (asS g n)
abbrev AlS : Type := AlD × Bool × List FnS
def obsS (n : Nat) (fa : List Fa) (fn : List DefD) (fs : List Sd) (ex : PySem.W.Frag → Bool) (g : Addr → Option Obj) : AlS := (obsD fa fn (frS g n), ex (frS g n), fs.map fun d => fnS (frS g n) (d.at_ (frS g n)))
def valS (fn : List DefD) (fs : List Sd) : AlS := (valD fn, true, fs.map Sd.val)
structure SaysS (fa : List Fa) (fn : List DefD) (fs : List Sd) (ex : PySem.W.Frag → Bool) (K : PySem.W.Frag) : Prop where
  d : SaysD fa fn K
  more : ex K = true
  fs : fs.map (fun d => fnS K (d.at_ K)) = fs.map Sd.val
def hookS (n : Nat) (fa : List Fa) (fn : List DefD) (fs : List Sd) (ex : PySem.W.Frag → Bool) : PySem.W.Hook where
  α := AlS
  obs := fun s => obsS n fa fn fs ex s.heap.get?
  val := fun _ => valS fn fs
  says := fun _ h => ∃ K : PySem.W.Frag, K.In h ∧ SaysS fa fn fs ex K
  of := fun _ _ e => ⟨_, frG_in, congrArg (fun z : AlS => z.1) e, congrArg (fun z : AlS => z.2.1) e, congrArg (fun z : AlS => z.2.2) e⟩
  keeps := fun _ _ _ ⟨K, hK, c⟩ k => ⟨K, PySem.W.Frag.In.keeps hK k, c⟩
theorem obsS_eq {n : Nat} {fa : List Fa} {fn : List DefD} {fs : List Sd} {ex : PySem.W.Frag → Bool} {g : Addr → Option Obj} {s : Shared} (h : ∀ a, g a = s.heap.get? a) : obsS n fa fn fs ex g = (hookS n fa fn fs ex).obs s := by
  have e : g = s.heap.get? := funext h
  rw [e] <;> rfl
theorem SaysS.at_ {fa : List Fa} {fn : List DefD} {fs : List Sd} {ex : PySem.W.Frag → Bool} {K : PySem.W.Frag} (c : SaysS fa fn fs ex K) (i : Nat) {d : Sd} (h : fs[i]? = some d := by rfl) : fnS K (d.at_ K) = d.val := by
  have e := congrArg (fun l : List FnS => l[i]?) c.fs
  simp only [List.getElem?_map, h, Option.map_some] at e
  exact Option.some.inj e
/-- what such a function is -/
theorem fnS_at {K : PySem.W.Frag} {a : Addr} {d : Sd} (e : fnS K a = d.val) : ∃ (oc : Value) (od : Option Addr) (osl : Array (Option Value)) (cl : List (Str × Addr)) (dV kV doc pm : Value) (an : Option Addr) (cdv ct : Value),
    K.lookup a = some ⟨oc, od, .func (PySem.W.fnX d.name d.qual d.params d.body d.scope cl dV kV doc pm an cdv ct), osl⟩ ∧ cl.map (·.1) = d.cl := by
  unfold fnS at e
  cases q : K.lookup a with
  | none => rw [q] at e; cases e
  | some o =>
    obtain ⟨oc, od, dt, osl⟩ := o
    rw [q] at e
    cases dt with
    | func fd =>
      obtain ⟨n1, n2, n3, n4, n5, n6, n7, n8, n9, n10, n11, n12, n13, n14, n15⟩ := fd
      have e2 : (some (n1, n2, n3, n4, n5, n6, n7.map (·.1), n15) : FnS) = some (d.name, d.qual, d.params, .stmts d.body, d.scope, mainGlobals, d.cl, builtinsNs) := e
      simp only [Option.some.injEq, Prod.mk.injEq] at e2
      obtain ⟨h1, h2, h3, h4, h5, h6, h7, h8⟩ := e2
      subst h1 h2 h3 h4 h5 h6 h8
      exact ⟨oc, od, osl, n7, n8, n9, n10, n11, n12, n13, n14, rfl, h7⟩
    | _ => cases e
end L3
end

section
/-! Law-independent layer 9: the Booleans of an own exception class (SupTxt), told by the head -/
namespace L3
open PySem PySem.Spec PyProof.Rows L2 He PySem.W
def clsB (K : Frag) (C : Addr) : Bool := match K.lookup C with
  | some ⟨.type "type", _, .cls cd, sl⟩ => (match cd.mro, sl.toList with
    | .ref C' :: bm, [_, _, _, _, some (.builtin n), _] => decide (C' = C) && (decide (n = "ValueError.__new__") && (!cd.hasDel && (cd.hasDict && PySem.HandSPX.refsVE bm)))
    | _, _ => false)
  | _ => false
theorem clsB_ok {K : Frag} {C : Addr} (c : clsB K C = true) : ∃ nm q N bs bm sn sub ab col dd k0 k1 k2 k3 k5, K.lookup C = some (excClassObj nm q C N bs bm true sn sub ab col dd k0 k1 k2 k3 k5 "ValueError.__new__") ∧ PySem.HandSPX.refsVE bm = true := by
  unfold clsB at c
  split at c
  · rename_i dd cd sl ho
    split at c
    · rename_i C' bm k0 k1 k2 k3 n k5 hm hs
      obtain ⟨c1, c⟩ := ba c
      obtain ⟨c2, c⟩ := ba c
      obtain ⟨c3, c⟩ := ba c
      obtain ⟨c4, c5⟩ := ba c
      have e1 : C' = C := of_decide_eq_true c1
      have e2 : n = "ValueError.__new__" := of_decide_eq_true c2
      subst e1 e2
      obtain ⟨nm, bs, mro, ns, qn, hd, sn, sb, ab, col, del⟩ := cd
      dsimp only at hm c3 c4
      have e3 : del = false := by simpa using c3
      subst hm c4 e3
      have e4 : sl = #[k0, k1, k2, k3, some (.builtin "ValueError.__new__"), k5] := Array.toList_inj.mp hs
      subst e4
      exact ⟨nm, qn, ns, bs, bm, sn, sb, ab, col, dd, k0, k1, k2, k3, k5, ho, c5⟩
    · cases c
  · cases c
/-- its __init__: the cell of __class__, the code's file -/
def iniB (F : Str) (K : Frag) (C : Addr) : Bool := decide (findIn K (.ref C) "__init__" = some (some (.ref (ma K C "__init__")))) && (decide (typeIn K (.ref (ma K C "__init__")) = some (.type "function")) && (match K.lookup (ma K C "__init__") with
  | some ⟨_, _, .func fd, _⟩ => decide (fd.defaults = .none) && (decide (fd.kwdefaults = .none) && ((match fd.closure with
    | [(n, cc)] => decide (n = ("__class__" : Str)) && (match K.lookup cc with
      | some ⟨_, _, .cell (some v), _⟩ => decide (v = .ref C)
      | _ => false)
    | _ => false) && (match fd.code with
    | .ref cda => codeIn K (.ref cda) fd.qualname && (match K.lookup cda with
      | some ⟨_, _, .fields vs, _⟩ => (match vs[2]? with
        | some (Value.str file _) => F == file
        | _ => false)
      | _ => false)
    | _ => false)))
  | _ => false))
def supB (F : Str) (K : Frag) (x : Str) : Bool := clsB K (ga K x) && (decide (findIn K (.ref (ga K x)) "__setattr__" = some (some (.builtin "object.__setattr__"))) && (decide (findIn K (.ref (ga K x)) "address" = some none) && (keepIn K (.ref (ga K x)) &&
  (decide (subIn K (.ref (ga K x)) (.type "BaseException") = some true) && (decide (subIn K (.ref (ga K x)) (.type "ValueError") = some true) && (decide (mroIn K (ga K x) (.ref (ga K x)) = some true) && (decide (typeIn K (.ref (ga K x)) = some (.type "type")) &&
  (decide (ks_superIn K (ga K x) (ga K x) "__init__" = some (some (.builtin "ValueError.__init__"))) && (decide (nsIn K cStatics "thirdparty.any" = some none) && iniB F K (ga K x))))))))))
def supSd (x pre : Str) (body : List Stmt) (params : Arguments) (scope : Scope) : Sd := ⟨fun K => ma K (ga K x) "__init__", "__init__", x ++ ".__init__", params, body, scope, ["__class__"]⟩
theorem supB_ok {P : Program} {K : Frag} {mg : Str → Option Value} {x pre : Str} {p1 p2 a1 a2 a3 a4 a5 a6 a7 a8 a9 a10 a11 a12 a13 : Pos} {qual : Str} (gC : mg x = some (.ref (ga K x))) (gs : mg "super" = none) (top : (P.main.scope.names.lookup ("super" : Str)).isSome = false)
    (c : supB P.main.file K x = true) (e : fnS K (ma K (ga K x) "__init__") = (⟨fun K => ma K (ga K x) "__init__", "__init__", qual, PySem.SupX.supA p1 p2, PySem.SupX.supB pre a1 a2 a3 a4 a5 a6 a7 a8 a9 a10 a11 a12 a13, PySem.SupX.supS, ["__class__"]⟩ : Sd).val)
    (ln : PySem.SupX.SupLine pre a1 a2 a3 a4 a5 a6 a7 a8) : PySem.SupX.SupTxt P K mg (ga K x) x pre := by
  unfold supB at c
  obtain ⟨c1, c⟩ := ba c
  obtain ⟨c2, c⟩ := ba c
  obtain ⟨c3, c⟩ := ba c
  obtain ⟨c4, c⟩ := ba c
  obtain ⟨c5, c⟩ := ba c
  obtain ⟨c6, c⟩ := ba c
  obtain ⟨c7, c⟩ := ba c
  obtain ⟨c8, c⟩ := ba c
  obtain ⟨c9, c⟩ := ba c
  obtain ⟨c10, c⟩ := ba c
  refine ⟨gC, clsB_ok c1, of_decide_eq_true c2, of_decide_eq_true c3, c4, of_decide_eq_true c5, of_decide_eq_true c6, of_decide_eq_true c7, of_decide_eq_true c8, of_decide_eq_true c9, of_decide_eq_true c10, gs, top, ?_⟩
  unfold iniB at c
  obtain ⟨d1, c⟩ := ba c
  obtain ⟨d2, c⟩ := ba c
  obtain ⟨oc, od, osl, cl, dV, kV, doc, pm, an, cdv, ct, hlk, hcl⟩ := fnS_at e
  rw [hlk] at c
  dsimp only [PySem.W.fnX] at c
  obtain ⟨d3, w1⟩ := ba c
  obtain ⟨d4, w2⟩ := ba w1
  obtain ⟨d5, w3⟩ := ba w2
  have e3 : dV = .none := of_decide_eq_true d3
  have e4 : kV = .none := of_decide_eq_true d4
  subst e3 e4
  obtain ⟨cc, rfl⟩ : ∃ cc, cl = [(("__class__" : Str), cc)] := by
    cases cl with
    | nil => cases hcl
    | cons q r =>
      cases r with
      | nil =>
        obtain ⟨n, cc⟩ := q
        have : n = ("__class__" : Str) := by
          have h := congrArg List.head? hcl
          exact Option.some.inj h
        exact ⟨cc, by rw [this]⟩
      | cons _ _ => cases congrArg List.length hcl
  dsimp only at d5
  obtain ⟨_, d6⟩ := ba d5
  clear c w1 w2 d5
  split at d6
  · rename_i clc cld v csl hcell
    have ev : v = .ref (ga K x) := of_decide_eq_true d6
    subst ev
    split at w3
    · rename_i cda
      obtain ⟨c1', w4⟩ := ba w3
      clear w3
      split at w4
      · rename_i ccl cdd vs ccs hcode
        split at w4
        · rename_i file tf hvs
          exact ⟨ma K (ga K x) "__init__", cc, cda, oc, od, doc, pm, an, ct, osl, p1, p2, a1, a2, a3, a4, a5, a6, a7, a8, a9, a10, a11, a12, a13, vs, file, tf, ccl, cdd, ccs, clc, cld, csl, qual, of_decide_eq_true d1, of_decide_eq_true d2, hlk, c1', hcode, hvs, w4, hcell, ln⟩
        · cases w4
      · cases w4
    · cases w3
  · cases d6
end L3
end

section
/-! Law-independent layer 10: defs called in an except suite: they know the exception; tuples taken apart there, isinstance of it, its fields -/
namespace L3
open PySem PySem.Spec PyProof.Rows L2 HotX
/-! ### a tuple taken apart while an exception is handled -/
section
variable {prog : Program} {w : World} {A : Around} {E : Value → Shared → Prop} {s : Shared}
theorem tup_end_hot {it t x1 : Addr} {i : Nat} {items} {Q : Option Value → Shared → Prop} (hot : HotAt A x1 s.heap) (hni : x1 ≠ it)
    (hit : IsTupIter s.heap it t i) (ht : IsTup s.heap t items) (hx : items[i]? = none)
    (hQ : ∀ g, Heap.ExtBut it s.heap g → Q none { s with heap := g }) : wpAny (model prog w) A (pyNext (.ref it)) Q E s := by
  obtain ⟨oi, gi, ci, di⟩ := id hit; obtain ⟨ol, gl, _, nl, dl⟩ := ht; obtain ⟨hh, o1, vs1, h1, d1, c1⟩ := hot
  unfold pyNext; refine wpAny_bind (wpAny_attempt (wpAny_callSpecial?_slot (name := Str.ofString "__next__") hit.typeIs slot_tupleiter_next (wpAny_call_entry slot_tupleiter_next hit.typeIs entry_tupleiter_next ?_ (args_tupleiter_next _))))
  show wpAny _ _ (field (.ref it) 0 >>= _) _ _ s; refine wpAny_bind (wpAny_field gi di (x := .ref t) rfl ?_)
  show wpAny _ _ (if (Value.ref t == Value.none) = true then _ else _) _ _ s; rw [if_neg (show ¬ ((Value.ref t == Value.none) = true) from Bool.false_ne_true)]
  show wpAny _ _ (field (.ref it) 1 >>= _) _ _ s; refine wpAny_bind (wpAny_field gi di (x := .int i 0) rfl ?_)
  show wpAny _ _ (seqItems? (.ref t) >>= _) _ _ s; refine wpAny_bind (wpAny_seqItems gl dl ?_)
  simp only [Int.toNat_natCast, hx]; refine wpAny_bind (wpAny_rule (wpAny_bind (wpAny_setField gi di (by simp) ?_)))
  show wpAny _ _ (newExc (.type "StopIteration") [] >>= _) _ _ _; refine wpAny_bind ?_; simp only [newExc, newTuple]
  refine wpAny_bind (wpAny_newObj_type ?_ (by size_fits)); refine wpAny_bind (m := firstArgMember _ _) (wpAny_of_eq (a := Value.none) (by first | rfl | (simp only [firstArgMember]; rfl)) ?_)
  refine wpAny_newObj_type ?_ (by size_fits)
  have g1 := (Heap.get?_update_other s.heap (Obj.mapFields (·.setIfInBounds 0 Value.none)) (Ne.symm hni)).trans h1
  refine raiseNew_hot ⟨hh, o1, vs1, Heap.get?_push_of_some _ (Heap.get?_push_of_some _ g1), d1, c1⟩ (Nat.ne_of_lt (Heap.lt_size (Heap.get?_push_of_some _ g1))) (Heap.get?_push_size _ rfl) rfl (by first | (simp; done) | (simp; omega) | (simp only [Array.size_append]; simp; omega)) ?_
  refine wpAny_bind (wpAny_isInstance (T := "StopIteration") (b := true) ⟨_, Heap.get?_update_self _ (Heap.get?_push_size _ rfl) rfl, rfl⟩ isSubtype_stop ?_); refine wpAny_pure (hQ _ fun b o hb e => ?_)
  have e0 := (Heap.get?_update_other s.heap (Obj.mapFields (·.setIfInBounds 0 Value.none)) (Ne.symm hb)).trans e
  rw [Heap.get?_update_other _ _ (Nat.ne_of_gt (Heap.lt_size (Heap.get?_push_of_some _ e0)))]; exact Heap.get?_push_of_some _ (Heap.get?_push_of_some _ e0)
theorem unpack_hot {t x1 : Addr} {items : Array Value} {targets : List (Bool × (Value → Sem Unit))} {Q : Unit → Shared → Prop} (hot : HotAt A x1 s.heap) (ht : IsTup s.heap t items)
    (hn : targets.length = items.size) (hs : targets.findIdx? (·.1) = none)
    (h : ∀ g, Heap.ExtBut s.heap.objs.size s.heap g → wpAny (model prog w) A (assignInOrder (targets.map (·.2)) items.toList) Q E { s with heap := g }) :
    wpAny (model prog w) A (unpack (.ref t) targets) Q E s := by
  have nt : t ≠ s.heap.objs.size := by obtain ⟨o, ho, _⟩ := ht; exact Nat.ne_of_lt (Heap.lt_size ho)
  obtain ⟨hh, o1, vs1, h1, d1, c1⟩ := hot
  have n1 : x1 ≠ s.heap.objs.size := Nat.ne_of_lt (Heap.lt_size h1)
  unfold unpack; rw [hn, hs]; refine wpAny_bind (wpAny_holding ?_); unfold unpackItems; refine wpAny_bind ?_
  unfold notIterableAtAll; refine wpAny_bind (wpAny_specialOf ht.typeIs slot_tuple_iter.lookup ?_); refine wpAny_pure ?_; simp only [Bool.false_eq_true, if_false]
  refine wpAny_bind (wpAny_holding (iter_tuple ht ?_)); refine wpAny_bind (wpAny_holding (draw_tuple nt items.size 0 _ _ ⟨_, Heap.get?_push_size _ rfl, rfl, rfl⟩ (ht.push _) (by omega) fun g1 hit1 hs1 => ?_))
  have all : List.take items.size (List.drop 0 items.toList) = items.toList := by rw [List.drop_zero]; exact List.take_of_length_le (by simp)
  rw [all, if_neg (by simp)]
  have k1 := hs1.extBut x1 o1 n1 (Heap.get?_push_of_some _ h1)
  refine wpAny_bind (wpAny_holding (tup_end_hot ⟨hh, o1, vs1, k1, d1, c1⟩ n1 hit1 ((ht.push _).extBut hs1.extBut nt) (by simp) fun g2 he2 => ?_))
  simp only [Option.isSome_none, Bool.false_eq_true, if_false]; exact wpAny_pure (h g2 fun b o hb e => he2 b o hb (hs1.extBut b o hb (Heap.get?_push_of_some _ e)))
end
theorem pg_tupH {X : Cx} {es : List Expr} {k : Nat} {t : TGs} {n : Nat} {pos : Pos} (hc : L2H.HotC X) (h : PGs X es t)
    (hn : (assignEach es X.env).length = n := by rfl) (hst : (assignEach es X.env).findIdx? (·.1) = none := by rfl) : PG X (.Tuple es k pos) (gTup X.K n t) := by
  refine ⟨fun pins s σ H v u Q I r ⟨a, xs, e1, hq, hl, hw⟩ => ?_⟩
  subst e1; cases r
  obtain ⟨its, rv, ht, hz⟩ := I.tuple hq
  obtain ⟨x1, hot⟩ := hc.at I
  rw [assign_Tuple]
  refine wpAny_bind (wpAny_standAt (unpack_hot hot ht (by simp [hn, ← hl, rv.length]) hst fun g hx => ?_))
  have I1 : Inv X pins σ H { s with heap := g } := I.kept (t' := s.toks) fun b o e => hx b o (Nat.ne_of_lt (Heap.lt_size e)) e
  exact h.run pins _ σ H xs _ Q I1 (by simpa using rv) hw
/-! ### the defs -/
open L2H
/-- what such a def promises, p the handled exception -/
structure FnQ (P : Program) (w : World) (K : PySem.W.Frag) (mg : Str → Option Value) (base : Heap) (k : Nat) (f : Addr) (fd : FuncData) (ps : List Str) (sp : Addr × Obj → Sp) : Prop where
  len : ∀ p vs H Q E, sp p vs H Q E → vs.length = ps.length
  run : ∀ (A : Around) (outer : List Env) (s : Shared) (H : Hp) (args : Args) (us : List Value) (vs : List V) (Q : VK) (E : XK) (p : Addr × Obj), RoomH k A → Hot1 A p → PinOk outer H s p → Env0 P w K mg base A outer s H → BindsTo s fd args (ps.zip us) → Vals vs us → sp p vs H Q E →
    codeAny (model P w) A (.call (.ref f) args) (CR CX0 outer P w H s Q E) s
structure CalQ (P : Program) (w : World) (K : PySem.W.Frag) (mg : Str → Option Value) (base : Heap) (k : Nat) (x : Str) (ps : List Str) (sp : Addr × Obj → Sp) : Prop where
  ok : ∃ f fd, FnQ P w K mg base k f fd ps sp ∧ mg x = some (.ref f) ∧ PySem.W.keepIn K (.ref f) = true ∧ Binds K fd ps []
theorem fnQ_of {P : Program} {w : World} {K : PySem.W.Frag} {mg : Str → Option Value} {base : Heap} {k : Nat} {f : Addr} {name qual : Str} {params : Arguments} {body : List Stmt} {scope : Scope} {dV kV doc pm cdv ct oc : Value} {an od : Option Addr}
    {osl : Array (Option Value)} {N ps : List Str} {sp : Addr × Obj → Sp} (lk : K.lookup f = some ⟨oc, od, .func (PySem.W.fnOf name qual params body scope dV kV doc pm an cdv ct), osl⟩) (hcd : PySem.W.codeIn K cdv qual = true) (S : FnScope N ps scope)
    (len : ∀ p vs H Q E, sp p vs H Q E → vs.length = ps.length)
    (hbody : ∀ (A : Around) (outer : List Env) (s : Shared) (H : Hp) (vs : List V) (Q : VK) (E : XK) (p : Addr × Obj), Hot1 A p → RoomH k (A.deeper (envOfC qual scope s.heap.objs.size f cdv)) → sp p vs H Q E →
      ∃ t, PSs (cxH CX0 P w K mg base N qual scope f cdv A outer s H E p) body t ∧ t { nx := fun _ H' => Q .non H', rt := Q } (L2.start N vs) H) :
    FnQ P w K mg base (k + 1) f (PySem.W.fnOf name qual params body scope dV kV doc pm an cdv ct) ps sp := by
  refine ⟨len, fun A outer s H args us vs Q E p hr hot pin e0 hb r hsp => ?_⟩
  have hl := len _ _ _ _ _ hsp
  have KX : K.In s.heap := e0.mod.kin.keeps fun b o e => (e0.bs b o e).1
  have knd : ∀ y ∈ ps.zip us, scope.names.lookup y.1 = some .local ∨ (scope.names.lookup y.1 = some .cell ∧ ((cellsFrom (s.heap.objs.size + 1) scope.names []).lookup y.1).isSome = true) := fun ⟨n, v⟩ hy =>
    (S.par n (List.of_mem_zip hy).1).elim .inl fun q => .inr ⟨q, PySem.W.cellsFrom_some _ _ _ (.inl q)⟩
  refine codeAny_call_function hr.depth (KX _ _ lk) rfl S.co S.gen rfl (PySem.W.codeRec_of KX hcd) (hb _ _ _ _ (wpAny_newFunctionEnv_cells S.kind knd fun env he s1 x => ?_))
  subst he; refine ⟨(e0.mod.nolimit.keeps fun b o e => (e0.bs b o e).1).keeps x.toInCall.keep, codeAny_func ?_⟩
  obtain ⟨t, ht, hq⟩ := hbody A outer s H vs Q E p hot (hr.deeper _) hsp
  have I := inv_startH (CX := CX0) (qual := qual) (f := f) (cd := cdv) (E := E) (A := A) S pin e0 hl r x
  refine wpAny_mono (ht.run [] s1 (L2.start N vs) H _ I hq) (fun fl s' hs => ?_) fun e s' hs => hs
  cases fl with
  | ret u => obtain ⟨v, σ', H', J, rv, q⟩ := hs; exact ⟨v, H', J.os, J.bare, J.base, J.hok, rv, q⟩
  | next => obtain ⟨σ', H', J, q⟩ := hs; exact ⟨V.non, H', J.os, J.bare, J.base, J.hok, rfl, q⟩
  | brk => exact hs.elim fun _ h => h.elim fun _ h => h.2.elim
  | cont => exact hs.elim fun _ h => h.elim fun _ h => h.2.elim
theorem calQ_mk {P : Program} {w : World} {K : PySem.W.Frag} {mg : Str → Option Value} {base : Heap} {k : Nat} {x qual : Str} {params : Arguments} {body : List Stmt} {scope : Scope} {N ps : List Str} {sp : Addr × Obj → Sp} {f : Addr}
    (F : ∃ fd, FunD K x qual params body scope [] [] f fd) (hm : mg x = some (.ref f)) (S : FnScope N ps scope)
    (hb : ∀ (kV doc pm : Value) (an : Option Addr) (cdv ct : Value) (us : List Value), us.length = ps.length → bindArgs (PySem.W.fnOf x qual params body scope .none kV doc pm an cdv ct) ⟨us, []⟩ = pure (ps.zip us))
    (len : ∀ p vs H Q E, sp p vs H Q E → vs.length = ps.length)
    (hbody : ∀ (f : Addr) (cdv : Value) (A : Around) (outer : List Env) (s : Shared) (H : Hp) (vs : List V) (Q : VK) (E : XK) (p : Addr × Obj), Hot1 A p → RoomH k (A.deeper (envOfC qual scope s.heap.objs.size f cdv)) → sp p vs H Q E →
      ∃ t, PSs (cxH CX0 P w K mg base N qual scope f cdv A outer s H E p) body t ∧ t { nx := fun _ H' => Q .non H', rt := Q } (L2.start N vs) H) : CalQ P w K mg base (k + 1) x ps sp := by
  obtain ⟨fd, F⟩ := F
  obtain ⟨oc, od, dV, kV, doc, pm, an, cdv, ct, osl, rfl, lk, hcd, hd, hk⟩ := F.ex
  exact ⟨f, _, fnQ_of lk hcd S len (fun A outer s H vs Q E p => hbody f cdv A outer s H vs Q E p), hm, F.kp, F.bindsN hb⟩
/-- the call: the spec of the exception that is handled -/
def tCallQ (sp : Addr × Obj → Sp) (p : Addr × Obj) (t : TA) : TE := fun σ H Q => t σ H fun vs H1 => sp p vs H1 Q fun _ _ _ => False
def tCallR (sp : Sp) (t : TA) : TE := fun σ H Q => t σ H fun vs H1 => sp vs H1 Q fun _ _ _ => False
theorem k_callR {sp : Sp} {t : TA} {σ : L2.St} {H : Hp} {Q : VK} (h : t σ H fun vs H1 => sp vs H1 Q fun _ _ _ => False) : tCallR sp t σ H Q := h
theorem pe_calR {X : Cx} {sp' : Sp} {k j : Nat} {x : Str} {ps : List Str} {sp : Addr × Obj → Sp} {p : Addr × Obj} {q pos : Pos} {e : Expr} {es : List Expr} {t : TA} (c : CalQ X.prog X.w X.K X.mg X.base k x ps sp) (hr : RoomH j X.A) (hk : k ≤ j) (hot : Hot1 X.A p) (hp : p ∈ X.pn) (imp : ∀ vs H Q, sp' vs H Q (fun _ _ _ => False) → sp p vs H Q (fun _ _ _ => False)) (hg : Gl X x)
    (ha : PA X (e :: es) t) (hdb : (x == ("__debug__" : Str)) = false := by decide) (he : starEach (e :: es) X.env = (false, eval e X.env) :: starEach es X.env := by rfl) (hpl : (backTo pos (starEach es X.env)).any (·.1) = false := by rfl) :
    PE X (.Call (.Name x q) (e :: es) [] pos) (tCallR sp' t) := by
  obtain ⟨f, fd, F, hm, kp, hb⟩ := c.ok
  refine ⟨fun pins s σ H Q I h => ?_⟩
  refine wpAny_Call_Name_kw (ld_glob I hg hm (PySem.W.callWith_K (h₀ := X.base) I.ok.mod.kin kp (thn (ha.run pos pins s σ H _ I h) fun us s1 ⟨vs, H1, I1, r, q0⟩ => ⟨I1.kIn, ?_⟩) he hpl) hdb)
  have q1 := imp _ _ _ q0
  have hl : us.length = ps.length := by rw [← r.length]; exact F.len _ _ _ _ _ q1
  have b := hb s1 us I1.kIn (by simpa using hl)
  rw [List.append_nil] at b
  obtain ⟨g1, g2, g3, g4, g5⟩ := I1.pin p (List.mem_append_left _ hp)
  have pin : PinOk X.stack H1 s1 p := ⟨g1, g2, fun hm => (List.mem_cons.mp (I1.stkSub p.1 hm)).elim g3 g4, g5⟩
  refine wpAny_call (codeAny_mono (F.run X.A X.stack s1 H1 ⟨us, []⟩ us vs Q (fun _ _ _ => False) p (hr.mono hk) hot pin I1.env0 b r q1) fun r s' hq => ?_)
  match r, hq with
  | .error _, hq => exact hq.elim
  | .ok (.ret _), hq => exact I1.after hq
  | .ok .next, hq => exact hq.elim
  | .ok .brk, hq => exact hq.elim
  | .ok .cont, hq => exact hq.elim
theorem pe_calQ {X : Cx} {k j : Nat} {x : Str} {ps : List Str} {sp : Addr × Obj → Sp} {p : Addr × Obj} {q pos : Pos} {e : Expr} {es : List Expr} {t : TA} (c : CalQ X.prog X.w X.K X.mg X.base k x ps sp) (hr : RoomH j X.A) (hk : k ≤ j) (hot : Hot1 X.A p) (hp : p ∈ X.pn) (hg : Gl X x)
    (ha : PA X (e :: es) t) (hdb : (x == ("__debug__" : Str)) = false := by decide) (he : starEach (e :: es) X.env = (false, eval e X.env) :: starEach es X.env := by rfl) (hpl : (backTo pos (starEach es X.env)).any (·.1) = false := by rfl) :
    PE X (.Call (.Name x q) (e :: es) [] pos) (tCallQ sp p t) := pe_calR (sp' := sp p) c hr hk hot hp (fun _ _ _ h => h) hg ha hdb he hpl
/-! ### isinstance of the exception, its fields -/
theorem findObj_dataO {K : PySem.W.Frag} {C : Addr} {od : Option Obj} {name : Str} {a g : Value} (hc : (PySem.W.clsIn K C).isSome = true) (ha : PySem.W.findIn K (.ref C) name = some (some a)) (hg : PySem.W.specialIn K a "__get__" = some (some g)) (ht : PySem.W.takesIn K a = some true) : PySem.W.findObj K C od name = some (.bind g a) := by
  obtain ⟨cd, hc⟩ := Option.isSome_iff_exists.mp hc
  unfold PySem.W.findObj; rw [hc, Option.bind_some, ha, Option.bind_some]; simp [hg, ht]
section
open PySem.W PySem.Calls
variable {prog : Program} {w : World} {A : Around} {E : Value → Shared → Prop} {s : Shared} {K : Frag} {x D : Addr} {ox : Obj} {od : Option Obj}
theorem kin_classO {Q : Option Value → Shared → Prop} (C : L2.ExcC K D) (X : K.In s.heap) (I : PySem.W.InstAt s.heap x ox D od) (h : Q (some (.ref D)) { s with toks := s.toks + 1 }) : wpAny (model prog w) A (getAttr? (.ref x) "__class__") Q E s := by
  obtain ⟨cd0, hc0, _⟩ := any_some C.hd
  have hf : findObj K D od "__class__" = some (.bind (.builtin "getset_descriptor.__get__") (.builtin "object.__class__")) := findObj_dataO (by rw [hc0]; rfl) C.ha C.hn C.ht
  obtain ⟨hp, g, d, t, os⟩ := s
  have L0 := I.type (M := model prog w); have L1 := looks_findIn (M := model prog w) X C.hg; have L2 := looks_findIn (M := model prog w) X C.hk; have L3 := looks_find (M := model prog w) X I hf
  have sub : Looks (model prog w) hp (isInstance (.ref x) (.type "BaseException")) true := L0.andThen (looks_subIn X C.hs)
  have n2 : (Value.builtin "BaseException.__getattribute__" == Value.builtin "object.__getattribute__") = false := by decide +kernel
  have n1 : (onTheHeap (Value.ref D) && Value.builtin "BaseException.__getattribute__" == Value.builtin "object.__getattribute__") = false := by rw [n2]; rfl
  unfold getAttr? getAttrBy? getAttrBy; refine wpAny_bind (wpAny_mkText (wpAny_bind (wpAny_attempt (wpAny_holding (wpAny_bind (L0.at (wpAny_bind (L1.at ?_))))))))
  show wpAny _ _ (if (onTheHeap (Value.ref D) && Value.builtin "BaseException.__getattribute__" == Value.builtin "object.__getattribute__") = true then _ else _) _ _ _; rw [n1, if_neg Bool.false_ne_true]
  unfold getAttrByItsOwn hookBefore; refine wpAny_bind ?_; rw [if_pos (show onTheHeap (Value.ref D) = true from rfl)]
  refine L2.at (wpAny_bind (wpAny_attempt (wpAny_holding ?_)))
  unfold callGetattribute; rw [show (false && onTheHeap (Value.builtin "BaseException.__getattribute__")) = false from rfl, if_neg Bool.false_ne_true]
  unfold boundAndCalled; rw [PySem.F.excAttr_ValueError.ga.bind (.ref x)]; refine wpAny_bind (wpAny_pure ?_)
  show wpAny _ _ (call (.builtin "BaseException.__getattribute__") [.ref x, .str "__class__" t]) _ _ _; refine wpAny_call (codeAny_call_builtin PySem.F.excAttr_ValueError.ga.plain PySem.F.entry_bexc_ga ?_)
  refine @check_slot (model prog w) _ _ ⟨hp, g, d, t + 1, os⟩ "BaseException.__getattribute__" "BaseException" "__getattribute__" (.ref x) [.str "__class__" t] [] _ (by decide +kernel) (by decide +kernel) sub (PySem.F.args_bexc_ga (.ref x) (.str "__class__" t)) ?_
  unfold Builtin.«object.__getattribute__»; refine wpAny_bind (wpAny_of_eq (a := ((Value.ref x : Value), [Value.str "__class__" t])) (by first | rfl | (simp only [slotArgs]; rfl)) ?_)
  refine wpAny_bind (wpAny_pure (wpAny_bind (L0.at (wpAny_bind (L3.at ?_)))))
  show wpAny _ _ (holding [Value.builtin "object.__class__"] (call (.builtin "getset_descriptor.__get__") [.builtin "object.__class__", .ref x, .ref D]) >>= ret) _ _ _; refine wpAny_bind (wpAny_holding (wpAny_call (class_get (s := ⟨hp, g, d, t + 1, os⟩) (ox := ox) (od := od) X I C.hm (wpAny_pure ?_))))
  show wpAny _ _ (handedOut (.ref D)) _ _ _; rw [handedOut_of (v := .ref D) rfl]
  first
    | exact wpAny_pure (wpAny_pure h)
    | exact wpAny_pure h
    | exact wpAny_pure (wpAny_bind (wpAny_pure (wpAny_pure h)))
theorem kitx_excO (C : L2.ExcC K D) : KitX K (.ref x) (.ref D) (fun h => PySem.W.InstAt h x ox D od) := by
  obtain ⟨cd0, hc0, _⟩ := any_some C.hd
  have ho : ∃ c d sl, K.lookup D = some ⟨c, d, .cls cd0, sl⟩ := by
    unfold clsIn at hc0; split at hc0
    · rename_i c' d' cd' sl' ho; cases hc0; exact ⟨_, _, _, ho⟩
    · cases hc0
  obtain ⟨c1, d1, sl1, ho⟩ := ho
  refine ⟨fun _ _ _ I => I.type, fun _ _ X _ A' Q' E' s' k q => ?_, fun h tp dd its n sl X htp => ?_, fun X I k => kin_classO C X I k⟩
  · unfold isType loadHead; exact wpAny_bind (wpAny_loadPart (k _ _ (X _ _ ho)) (wpAny_pure q))
  · refine Bool.eq_false_iff.mpr fun q => ?_
    have e : D = tp := Value.ref.inj (beq_iff_eq.mp q)
    subst e; cases (X _ _ ho).symm.trans htp
end
/-- the caught exception of the class cls, its dict d, as it stands at H -/
def ExAt (H : Hp) (d : Option Addr) : Prop := d = none ∨ ∃ dd fs, d = some dd ∧ H dd = some (.xd fs)
theorem exc_inst {X : Cx} {p : Addr × Obj} {D : Addr} {d : Option Addr} {pins : List (Addr × Obj)} {σ : L2.St} {H : Hp} {s : Shared} (hz : Zc (.ref D) d p.2) (hf : ∃ vs, p.2.data = .fields vs) (hp : p ∈ X.pn) (I : Inv X pins σ H s) (h : ExAt H d) : ∃ od, PySem.W.InstAt s.heap p.1 p.2 D od := by
  obtain ⟨hget, _⟩ := I.pin p (List.mem_append_left _ hp)
  obtain ⟨vs, hv⟩ := hf
  have no : PySem.W.notCls p.2 = true := by unfold PySem.W.notCls; rw [hv] <;> rfl
  rcases h with rfl | ⟨dd, fs, rfl, ea⟩
  · exact ⟨none, hget, hz.1, no, by rw [hz.2]; trivial⟩
  · obtain ⟨mA, hns, _⟩ := (show ObjOk X.prog X.w H s.heap dd (.xd fs) from I.hok dd _ ea)
    obtain ⟨od, ho, _⟩ := lookIn_ns hns
    exact ⟨some od, hget, hz.1, no, by rw [hz.2]; exact ho⟩
def rIsQ (K : PySem.W.Frag) (D a : Addr) (d : Option Addr) : List V → Hp → VK → Prop := fun xs H Q => ∃ (c : V) (u : Value) (b : Bool), xs = [.ref a, c] ∧ ExAt H d ∧ ClsV c u ∧ PySem.W.kitOne K (.ref D) u = some b ∧ Q (.bl b) H
def rIsQT (K : PySem.W.Frag) (D a : Addr) (d : Option Addr) : List V → Hp → VK → Prop := fun xs H Q => ∃ (tp : Addr) (cs : List V) (us : List Value) (b : Bool), xs = [.ref a, .ref tp] ∧ ExAt H d ∧ H tp = some (.tup cs) ∧ Paired ClsV cs us ∧ PySem.W.kitAny K (.ref D) us = some b ∧ Q (.bl b) H
section
variable {X : Cx} {p : Addr × Obj} {D : Addr} {d : Option Addr}
theorem cr_isQ (C : L2.ExcC X.K D) (hz : Zc (.ref D) d p.2) (hf : ∃ vs, p.2.data = .fields vs) (hp : p ∈ X.pn) : CallR X (.builtin "isinstance") (rIsQ X.K D p.1 d) := by
  intro pins s σ H xs us Q I r ⟨c, u, b, ex, he, k, e, q⟩
  subst ex
  obtain ⟨u1, u2, rfl, r1, r2⟩ := vals2 r
  cases r1
  have e2 := k.eq r2; subst e2
  obtain ⟨od, J⟩ := exc_inst hz hf hp I he
  exact PySem.W.kia_one (kitx_excO C) I.kIn J e (fun z => nomatch z) fun tk => ⟨.bl b, H, I.tok tk, rfl, q⟩
theorem cr_isQT (C : L2.ExcC X.K D) (hz : Zc (.ref D) d p.2) (hf : ∃ vs, p.2.data = .fields vs) (hp : p ∈ X.pn) : CallR X (.builtin "isinstance") (rIsQT X.K D p.1 d) := by
  intro pins s σ H xs us Q I r ⟨tp, cs, ws, b, ex, he, hT, k, e, q⟩
  subst ex
  obtain ⟨u1, u2, rfl, r1, r2⟩ := vals2 r
  cases r1; cases (show u2 = Value.ref tp from r2)
  obtain ⟨od, J⟩ := exc_inst hz hf hp I he
  obtain ⟨_, its, rv, o, h1, h2, n, h3⟩ := (show ObjOk X.prog X.w H s.heap tp (.tup cs) from I.hok tp _ hT)
  have e3 := ClsV.all k rv; subst e3
  obtain ⟨oc, oda, dt, sl⟩ := o
  simp only at h2 h3; subst h2 h3
  exact PySem.W.kia_tup (kitx_excO C) I.kIn J h1 e (fun z => nomatch z) fun tk => ⟨.bl b, H, I.tok tk, rfl, q⟩
/-- e.f, e the handled exception -/
def tXfQ (a : Addr) (d : Option Addr) (f : Str) (te : TE) : TE := fun σ H Q => te σ H fun x H1 => x = .ref a ∧ ∃ (dd : Addr) (fs : List (Str × V)) (v : V), d = some dd ∧ H1 dd = some (.xd fs) ∧ fs.lookup f = some v ∧ Q v H1
theorem pe_xfQ {e : Expr} {te : TE} {pos : Pos} {n : Str} (T : L2.XfC X.K D) (hno : PySem.W.findIn X.K (.ref D) n = some none) (hz : Zc (.ref D) d p.2) (hf : ∃ vs, p.2.data = .fields vs) (hp : p ∈ X.pn) (he : PE X e te) (hb : attributeBase e n X.env (eval e X.env) = eval e X.env := by rfl) :
    PE X (.Attribute e n pos) (tXfQ p.1 d n te) := by
  refine ⟨fun pins s σ H Q I h => attr_of hb (thn (he.run pins s σ H _ I h) fun u s1 ⟨x, H1, I1, rx, ex, dd, fs, v, ed, ea, l, q⟩ => ?_)⟩
  subst ex ed; cases rx
  obtain ⟨ha, _⟩ := I1.pin p (List.mem_append_left _ hp)
  obtain ⟨vs, hd⟩ := hf
  obtain ⟨mA, hns, hr⟩ := (show ObjOk X.prog X.w H1 s1.heap dd (.xd fs) from I1.hok dd _ ea)
  obtain ⟨od, ho, hl⟩ := lookIn_ns hns
  obtain ⟨u, hu, ru⟩ := RelO.some_of (v := v) (o := mA n) (by rw [← l]; exact hr n)
  have J : PySem.W.InstAt s1.heap p.1 p.2 D (some od) := ⟨ha, hz.1, by unfold PySem.W.notCls; rw [hd] <;> rfl, by rw [hz.2]; exact ho⟩
  exact HandSPX.exc_get I1.kIn J T.ga T.gg T.exC (PySem.W.findObj_own T.hdC hno rfl (by rw [hl, hu])) (handed_of ru) ⟨v, H1, I1.tok _, ru, q⟩
end
end L3
end

section
/-! Law-independent layer 11: == and != of an own class that has __eq__ alone, beside anything -/
namespace L3
open PySem PySem.Spec PyProof.Rows L2
section
variable {X : Cx} {CX : CXT} {k j : Nat} {C : Addr} {ps : List Str} {sp : Sp} {E : XK}
/-- the own __eq__ is called with x and any other thing; ng: its answer is turned round -/
def rOwnX (K : PySem.W.Frag) (C : Addr) (sp : Sp) (E : XK) (ng : Bool) : R2 := fun x y H Q => ∃ a dx fs t, x = V.ref a ∧ H a = some (.ins C dx fs) ∧ TyX K H y t ∧ PySem.W.notFirst K C t = true ∧ sp [.ref a, y] H (fun v H' => ∃ b : Bool, v = .bl b ∧ Q (.bl (if ng = true then !b else b)) H') E
theorem eq_called (cm : Met X.prog X.w X.K X.mg X.base CX k C "__eq__" ps sp) {A : Around} (hr : Room k A) (hfr : A.frames = X.A.frames) (hx : Passes CX X E) {pins : List (Addr × Obj)} {s : Shared} {σ : L2.St} {H : Hp} {Q : VK} {a : Addr} {y : V} {u : Value} (I : Inv X pins σ H s) (ry : RelV y u)
    (h : sp [.ref a, y] H (fun v H' => ∃ b : Bool, v = .bl b ∧ Q (.bl b) H') E) :
    ∃ f, Meth X.K C "__eq__" f ∧ wpAny (model X.prog X.w) A (call (.ref f) [.ref a, u]) (fun v s' => ∃ b : Bool, v = .bool b ∧ ∃ H', Inv X pins σ H' s' ∧ Q (.bl b) H') X.xe s := by
  obtain ⟨f, fd, F, M, hb⟩ := cm.ok
  refine ⟨f, M, ?_⟩
  have hl := F.len _ _ _ _ h
  have e := I.env0
  have e0 : Env0 X.prog X.w X.K X.mg X.base A X.stack s H := ⟨by rw [hfr]; exact e.frames, e.mod, e.bs, e.bsz, e.funs, e.frf, e.hok, e.bare⟩
  refine wpAny_call (codeAny_mono (F.run A X.stack s H ⟨[.ref a, u], []⟩ [.ref a, u] [.ref a, y] _ E hr e0 (by
    have := hb s [.ref a, u] I.kIn (by simpa using hl)
    simpa using this) (.cons rfl (.cons ry .nil)) h) fun r s' hq => ?_)
  match r, hq with
  | .error ee, hq => exact hx pins σ H s ee s' I hq
  | .ok (.ret w), hq =>
    obtain ⟨z, H', I', rz, b, ez, q⟩ := I.after hq
    subst ez
    cases rz
    exact ⟨b, rfl, H', I', q⟩
  | .ok .next, hq => exact hq.elim
  | .ok .brk, hq => exact hq.elim
  | .ok .cont, hq => exact hq.elim
theorem op_ownEqX (cm : Met X.prog X.w X.K X.mg X.base CX k C "__eq__" ps sp) (hr : Room j X.A) (hk : k ≤ j) (hx : Passes CX X E) : OpR X (compareOp .Eq) (rOwnX X.K C sp E false) := by
  intro pins s σ H x y v u Q I rx ry ⟨a, dx, fs, t, ex, ha, ty, nf, h⟩
  subst ex; cases rx
  obtain ⟨mA, J, _⟩ := ins_get I.hok ha
  obtain ⟨od, J, _⟩ := J.look
  obtain ⟨Z, kt, kp, _⟩ := kit_of I ry ty
  obtain ⟨m, hF⟩ := I.fr
  obtain ⟨f, M, hc⟩ := eq_called cm (hr.mono hk) rfl hx I ry h
  show wpAny (model X.prog X.w) X.A (richCompare .Eq (.ref a) u) (EP X pins σ Q) X.xe s
  refine PySem.W.cmp_K (op := .Eq) hr.units0 hF I.ok.mod.kin J (kt.ty _ _ I.kIn kp) nf M.at_ M.fn (wpAny_mono hc (fun w s' ⟨b, ew, H', I', q⟩ => ?_) fun _ _ z => z)
  subst ew
  exact ⟨.bl b, H', I', rfl, q⟩
open PySem.W in
theorem op_ownNeX (cm : Met X.prog X.w X.K X.mg X.base CX k C "__eq__" ps sp) (hne : findIn X.K (.ref C) "__ne__" = some (some (.builtin "object.__ne__"))) (hso : subIn X.K (.ref C) (.type "object") = some true) (hr : Room j X.A) (hk : k + 1 ≤ j) (hx : Passes CX X E) : OpR X (compareOp .NotEq) (rOwnX X.K C sp E true) := by
  intro pins s σ H x y v u Q I rx ry ⟨a, dx, fs, t, ex, ha, ty, nf, h⟩
  subst ex; cases rx
  obtain ⟨mA, J, _⟩ := ins_get I.hok ha
  obtain ⟨od, J, _⟩ := J.look
  obtain ⟨Z, kt, kp, _⟩ := kit_of I ry ty
  have kin := I.kIn
  have hb := kt.ty (model X.prog X.w) _ kin kp
  have r1 : Room (k + 1) X.A := hr.mono hk
  have u1 : X.A.in1.units < cLine := r1.in1.units0
  obtain ⟨f, M, hc⟩ := eq_called (Q := fun v H' => ∃ b : Bool, v = .bl b ∧ Q (.bl (!b)) H') cm r1.in1 rfl hx I ry (by
    have : (fun v H' => ∃ b : Bool, v = V.bl b ∧ Q (.bl (if true = true then !b else b)) H') = (fun v H' => ∃ b : Bool, v = V.bl b ∧ ∃ b' : Bool, V.bl b = V.bl b' ∧ Q (.bl (!b')) H') := by
      funext v H'
      refine propext ⟨fun ⟨b, e, q⟩ => ⟨b, e, b, rfl, q⟩, fun ⟨b, e, b', e', q⟩ => ⟨b, e, ?_⟩⟩
      cases e'
      exact q
    rw [this] at h
    exact h)
  show wpAny (model X.prog X.w) X.A (richCompare .NotEq (.ref a) u) (EP X pins σ Q) X.xe s
  have one : wpAny (model X.prog X.w) X.A (tryCompare (.ref a) "__ne__" u) (fun r s' => ∃ v, r = some v ∧ EP X pins σ Q v s') X.xe s := by
    unfold tryCompare
    refine wpAny_bind ?_
    simp only [callSpecialIfBound?, bindSpecialIfBound?]
    have fin : wpAny (model X.prog X.w) X.A (call (.builtin "object.__ne__") ([.ref a] ++ [u]) >>= fun v => pure (some v)) (fun r s₁ => wpAny (model X.prog X.w) X.A (match r with | some .notImplemented | none => pure none | some v => pure (some v)) (fun r s' => ∃ v, r = some v ∧ EP X pins σ Q v s') X.xe s₁) X.xe s := by
      refine wpAny_bind (wpAny_call (codeAny_call_builtin PySem.F.cmp_object.ne.plain PySem.F.cmpEntry_ne ?_))
      have sub : Looks (model X.prog X.w) s.heap (isInstance (.ref a) (.type "object")) true := (J.type (M := model X.prog X.w)).andThen (looks_subIn kin hso)
      refine @check_slot (model X.prog X.w) _ _ s "object.__ne__" "object" "__ne__" (.ref a) [u] [] _ PySem.F.cmpKind_ne PySem.F.cmpSplit_ne sub (PySem.F.cmpArgs_ne _ _) ?_
      unfold Builtin.«object.__ne__»
      refine wpAny_bind (wpAny_of_eq (a := ((Value.ref a : Value), [u])) (by first | rfl | (simp only [slotArgs]; rfl)) ?_)
      refine wpAny_bind (wpAny_cRoomFor u1 ?_)
      refine wpAny_bind (ifBound_K kin J M.at_ M.fn (wpAny_mono hc (fun w s' ⟨b, ew, H', I', b', eb, q⟩ => ?_) fun _ _ z => z))
      subst ew
      cases eb
      refine wpAny_bind (wpAny_of_eq (a := b) (by first | rfl | (simp only [truthy]; rfl)) ?_)
      refine wpAny_pure ?_
      exact wpAny_pure (wpAny_pure ⟨_, rfl, .bl (!b), H', I', rfl, q⟩)
    refine wpAny_holding (wpAny_bind (wpAny_bind (wpAny_bind (J.type.here ((looks_findIn kin hne).here ?_)))))
    simp only [PySem.F.cmp_object.ne.bind]
    refine wpAny_bind (wpAny_askSetting (wpAny_ite ?_))
    split
    · exact wpAny_bind (wpAny_pure (wpAny_pure fin))
    · exact wpAny_tryCatch (wpAny_bind (wpAny_pure (wpAny_pure fin)))
  unfold richCompare; simp only [oneThing_ref]
  refine wpAny_holding (wpAny_bind (wpAny_cRoomFor hr.units0 (wpAny_bind (J.type.here (wpAny_bind (hb.here ?_))))))
  have tail : ∀ {F : Option Value → Sem Value}, (∀ v, F (some v) = pure v) → wpAny (model X.prog X.w) X.A (tryCompare (.ref a) "__ne__" u >>= F) (EP X pins σ Q) X.xe s := fun {F} hF => wpAny_bind (wpAny_mono one (fun r s' ⟨v, e, q⟩ => by subst e; rw [hF]; exact wpAny_pure q) fun _ _ z => z)
  split
  · rename_i q
    have e : subIn X.K t (.ref C) = some false := by
      rcases Bool.or_eq_true_iff.mp nf with e | e
      · rw [beq_iff_eq.mp e] at q; simp at q
      · exact beq_iff_eq.mp e
    refine wpAny_bind ((looks_subIn kin e).here ?_); simp only [Bool.false_eq_true, if_false]
    exact tail fun v => rfl
  · refine wpAny_bind (wpAny_pure ?_); simp only [Bool.false_eq_true, if_false]
    exact tail fun v => rfl
end
end L3
end

section
/-! Law-independent layer 12: own exceptions of one text: super().__init__(f'..{name}'), self.name = name -/
namespace PySem
namespace SupN
open PySem.W PySem.HandSPX Calls PyProof.Rows PySem.Spec
def supBn (pre : Str) (a1 a2 a3 a4 a5 a6 a7 a8 a9 a10 a11 a12 a13 : Pos) : List Stmt :=
  [.Expr (.Call (.Attribute (.Call (.Name "super" a1) [] [] a2) "__init__" a3) [.JoinedStr [.Constant (.str pre) 0 a4, .FormattedValue (.Name "name" a5) (-1) none a6] a7] [] a8) a9,
   .Assign [.Attribute (.Name "self" a10) "name" a11] (.Name "name" a12) a13]
def supSn : Scope := { kind := .function, names := [("self", .local), ("name", .local), ("__class__", .free), ("super", .globalImplicit)], isGenerator := false, isCoroutine := false, more := [] }
def supAn (p1 p2 : Pos) : Arguments := { posonlyargs := [], args := [{ arg := "self", annotation := none, pos := p1 }, { arg := "name", annotation := none, pos := p2 }], vararg := none, kwonlyargs := [], kw_defaults := [], kwarg := none, defaults := [] }
/-- the call stands on one line -/
def SupLine (pre : Str) (a1 a2 a3 a4 a5 a6 a7 a8 : Pos) : Prop := ∀ env : Env, ∃ pl : Sem Bool, eval (.Call (.Attribute (.Call (.Name "super" a1) [] [] a2) "__init__" a3) [.JoinedStr [.Constant (.str pre) 0 a4, .FormattedValue (.Name "name" a5) (-1) none a6] a7] [] a8) env = (do
      let ov ← attributeBase (.Call (.Name "super" a1) [] [] a2) "__init__" env (eval (.Call (.Name "super" a1) [] [] a2) env)
      standAt a3.atName
      let (f, first) ← holding [ov] (getMethod ov "__init__" pl)
      callWith a8 f first (backTo a8 (starEach [.JoinedStr [.Constant (.str pre) 0 a4, .FormattedValue (.Name "name" a5) (-1) none a6] a7] env)) [])
/-- what the written part says of such a class -/
structure SupTxt (P : Program) (K : Frag) (mg : Str → Option Value) (C : Addr) (x pre : Str) : Prop where
  gC : mg x = some (.ref C)
  cls : ∃ nm q N bs bm sn sub ab col dd k0 k1 k2 k3 k5, K.lookup C = some (excClassObj nm q C N bs bm true sn sub ab col dd k0 k1 k2 k3 k5 "ValueError.__new__") ∧ refsVE bm = true
  sa : findIn K (.ref C) "__setattr__" = some (some (.builtin "object.__setattr__"))
  noN : findIn K (.ref C) "name" = some none
  kC : keepIn K (.ref C) = true
  exC : subIn K (.ref C) (.type "BaseException") = some true
  veC : subIn K (.ref C) (.type "ValueError") = some true
  slf : mroIn K C (.ref C) = some true
  tyC : typeIn K (.ref C) = some (.type "type")
  sup : ks_superIn K C C "__init__" = some (some (.builtin "ValueError.__init__"))
  dead : nsIn K cStatics "thirdparty.any" = some none
  gs : mg "super" = none
  top : (P.main.scope.names.lookup ("super" : Str)).isSome = false
  fn : ∃ (fI cc cda : Addr) (oc : Value) (od : Option Addr) (doc pm : Value) (an : Option Addr) (ct : Value) (osl : Array (Option Value)) (p1 p2 a1 a2 a3 a4 a5 a6 a7 a8 a9 a10 a11 a12 a13 : Pos) (vs : Array Value) (file : Str) (tf : Tok) (ccl : Value) (cdd : Option Addr) (ccs : Array (Option Value)) (cl : Value) (cld : Option Addr) (csl : Array (Option Value)) (qual : Str),
    findIn K (.ref C) "__init__" = some (some (.ref fI)) ∧ typeIn K (.ref fI) = some (.type "function") ∧
    K.lookup fI = some ⟨oc, od, .func (ksFn "__init__" qual (supAn p1 p2) (supBn pre a1 a2 a3 a4 a5 a6 a7 a8 a9 a10 a11 a12 a13) supSn .none .none doc pm an (.ref cda) ct cc), osl⟩ ∧ codeIn K (.ref cda) qual = true ∧
    K.lookup cda = some ⟨ccl, cdd, .fields vs, ccs⟩ ∧ vs[2]? = some (.str file tf) ∧ ((P.main.file : Str) == file) = true ∧ K.lookup cc = some ⟨cl, cld, .cell (some (.ref C)), csl⟩ ∧ SupLine pre a1 a2 a3 a4 a5 a6 a7 a8
/-- what __init__ leaves of a fresh exception at x -/
structure InitEnd (h h' : Heap) (x C dx t1 : Addr) (v : Value) : Prop where
  keep : ∀ b o, b ≠ x → h.get? b = some o → h'.get? b = some o
  obj : h'.get? x = some { cls := .ref C, dict := some dx, data := .fields #[.ref t1, .none, .none, .none, .bool false, .none] }
  dbig : h.objs.size ≤ dx
  dne : dx ≠ x
  ns : h'.Ns1 dx (fun y => if y = "name" then some v else none)
theorem ldSn {M : Model} {s : Shared} {name : Str} {scope : Scope} {L a : Addr} {cd : Value} {cells : List (Str × Addr)} {m : Str → Option Value} {x : Str} {pos : Pos} {v : Value} {Q : Value → Shared → Prop} {A : Around} {E : Value → Shared → Prop} (hn : s.heap.Ns L m) (hv : m x = some v) (h : Q v s)
    (hk : scope.kind = .function := by rfl) (hl : (envX name scope L a cd cells).kindOf x = some .local := by rfl) (hd : (x == ("__debug__" : Str)) = false := by decide) :
    wpAny M A (eval (.Name x pos) (envX name scope L a cd cells)) Q E s := wpAny_Name (wpAny_loadName_local hk hl hn hv h) hd
section
variable {prog : Program} {w : World} {A : Around} {E : Value → Shared → Prop} {R : Result → Shared → Prop} {s : Shared} {K : Frag} {mg : Str → Option Value} {C : Addr} {x pre : Str} {base : Heap}
/-- the bound __init__ of ValueError called -/
theorem call_mwn {h : Heap} {g : Array GenState} {d : Drawn} {t : Nat} {os : OsState} {u e t0 : Addr} {rest : List Value} {Q : Value → Shared → Prop} {nm q : Str} {C N : Addr} {bs bm : List Value} {sn : List Str} {sub : List Value} {ab : Bool} {col : Option Bool} {dd : Option Addr} {k0 k1 k2 k3 k5 : Option Value}
    (hu : h.get? u = some (kxs_mw "ValueError.__init__" e)) (hC : h.get? C = some (excClassObj nm q C N bs bm true sn sub ab col dd k0 k1 k2 k3 k5 "ValueError.__new__")) (he : h.get? e = some (excO C t0)) (hz : rest.length ≤ sizeLine)
    (hq : ∀ h' t1, (∀ b o, b ≠ e → h.get? b = some o → h'.get? b = some o) → h'.get? e = some (excO C t1) → Q .none ⟨h', g, d, t, os⟩) :
    wpAny (model prog w) A (call (.ref u) rest) Q E ⟨h, g, d, t, os⟩ := by
  refine wpAny_call (codeAny_of_tree ?_)
  show wpAny _ A.in1 (callAny (.ref u) ⟨rest, []⟩) _ _ _
  simp only [callAny]
  refine wpAny_bind (wpAny_load hu ?_)
  simp only [kxs_mw, show (Value.type "method-wrapper" == Value.type "method" || Value.type "method-wrapper" == Value.type "builtin_function_or_method" || Value.type "method-wrapper" == Value.type "method-wrapper") = true by decide, if_true]
  refine KFB.if_so (by decide) ?_
  refine wpAny_bind (check_bound_init F.excBase_ValueError.toExcCallFacts hC he rfl ?_)
  refine wpAny_bind (wpAny_pure (wpAny_pure ?_))
  refine ⟨plainId_quiet F.excBase_ValueError.init.plain _, codeAny_builtin F.excBase_ValueError.initEntry ?_⟩
  exact exc_init_tree (cls := .ref C) (t0 := t0) (dv := none) (c2 := .none) (c3 := .none) (b4 := .bool false) he hz fun h' k e' _ => hq h' _ k e'
theorem sup_init (T : SupTxt prog K mg C x pre) (M : L2.Mod K mg base) {z : Str} {tk0 : Tok} {xe t0 fI : Addr} (bk : ∀ b o, base.get? b = some o → s.heap.get? b = some o) (hlim : s.heap.NoLimit) (hx : s.heap.get? xe = some (excO C t0)) (hnx : base.get? xe = none) (hroom : A.depth < recursionLimit)
    (hf : findIn K (.ref C) "__init__" = some (some (.ref fI))) (hi : z.length ≤ 1000) (hpre : pre.length ≤ 1000)
    (hq : ∀ h' tk dx t1, InitEnd s.heap h' xe C dx t1 (.str z tk0) → R (.ok (.ret .none)) { s with heap := h', toks := tk }) :
    codeAny (model prog w) A (.call (.ref fI) ⟨[.ref xe, .str z tk0], []⟩) R s := by
  obtain ⟨fI', cc, cda, oc, od, doc, pm, an, ct, osl, p1, p2, a1, a2, a3, a4, a5, a6, a7, a8, a9, a10, a11, a12, a13, vs, file, tf, ccl, cdd, ccs, cl, cld, csl, qual, g1, g2, g3, g4, g5, g6, g7, g8, gL⟩ := T.fn
  obtain rfl : fI = fI' := by
    rw [hf] at g1
    exact Value.ref.inj (Option.some.inj (Option.some.inj g1))
  obtain ⟨nm, q, N, bs, bm, sn, sub, ab, col, dd, k0, k1, k2, k3, k5, hC, hbm⟩ := T.cls
  have hcl : clsIn K C = some { name := nm, bases := bs, mro := .ref C :: bm, ns := N, qualname := q, hasDict := true, slotNames := sn, subclasses := sub, abstract := ab, collection := col, hasDel := false } := by unfold clsIn; rw [hC] <;> rfl
  have X : K.In s.heap := M.kin.keeps bk
  refine ks_codeAny_call_defAt (fd := ksFn "__init__" qual (supAn p1 p2) (supBn pre a1 a2 a3 a4 a5 a6 a7 a8 a9 a10 a11 a12 a13) supSn .none .none doc pm an (.ref cda) ct cc) (body := supBn pre a1 a2 a3 a4 a5 a6 a7 a8 a9 a10 a11 a12 a13) (binds := [("self", .ref xe), ("name", .str z tk0)])
    hroom (X _ _ g3) rfl hlim (codeRec_of X g4) rfl (BindsTo.of_eq (by first | rfl | with_unfolding_all rfl)) (show ∀ x ∈ supSn.names, x.2 ≠ .cell by decide) (fun y hy => by
      rcases List.mem_cons.mp hy with rfl | hy
      · with_unfolding_all rfl
      · rcases List.mem_cons.mp hy with rfl | hy
        · with_unfolding_all rfl
        · cases hy) (fun h₁ hn k => ?_) rfl rfl rfl
  have X₁ : K.In h₁ := X.keeps k
  have hx₁ := k _ _ hx
  have bk₁ : ∀ b o, base.get? b = some o → h₁.get? b = some o := fun b o e => k b o (bk b o e)
  obtain ⟨pl, he⟩ := gL (ksEnv qual supSn s.heap.objs.size fI (.ref cda) cc)
  have hsub : Looks (model prog w) h₁ (isSubtype (.ref C) (.ref C)) true := looks_mroIn X₁ T.slf
  have hI : Looks (model prog w) h₁ (isInstance (.ref xe) (.type "ValueError")) true := by
    have I : InstAt h₁ xe (excO C t0) C none := ⟨hx₁, rfl, rfl, trivial⟩
    exact I.type.andThen (looks_subIn X₁ T.veC)
  obtain ⟨mb, hb1, hb2⟩ := M.blt
  refine ks_wpAt_execs_cons (ks_wpAt_Expr_any (ks_wpAt_MethodCall ?_ he))
  refine ks_wpAt_super_base (env := ksEnv qual supSn s.heap.objs.size fI (.ref cda) cc) (by with_unfolding_all rfl) (by with_unfolding_all rfl) (by decide) rfl (X₁ _ _ g3) rfl rfl rfl (X₁ _ _ g5) rfl g6 g7 T.top ?_
  refine ks_loadName_global rfl (by with_unfolding_all rfl) (loadGlobal_builtin (env := ksEnv qual supSn s.heap.objs.size fI (.ref cda) cc) (M.glob.keeps bk₁) T.gs (hb1.keeps bk₁) ((hb2 _ (by decide)).trans (show bootBuiltins "super" = some (.type "super") by decide +kernel)) ⟨rfl, ?_⟩)
  refine wpAny_loadName_free (env := ksEnv qual supSn s.heap.objs.size fI (.ref cda) cc) rfl (by with_unfolding_all rfl) rfl ⟨_, X₁ _ _ g8, rfl⟩ ?_
  refine wpAny_loadName_local (v := .ref xe) rfl (by with_unfolding_all rfl) hn (by with_unfolding_all rfl) ?_
  have hCh := X₁ _ _ hC
  refine ks_wpAny_isType_cls hCh rfl ⟨rfl, ?_⟩
  refine ks_wpAny_call_super hCh rfl hx₁ rfl (fun c e => nomatch e) hsub (fun h₂ e₂ k₂ => ?_)
  have X₂ : K.In h₂ := X₁.keeps k₂
  have hsup := T.sup
  unfold ks_superIn at hsup
  rw [hcl] at hsup
  have hne : xe ≠ C := fun z => by
    rw [z, hCh] at hx₁
    cases hx₁
  refine kxs_getMethod kxs_ValueError e₂ (looks_opaque X₂ T.dead) (l₀ := .ref C :: bm) (fun A Q E s k q => wpAny_bind ((looks_clsIn X₂ hcl) A _ E s k (wpAny_pure q))) rfl X₂ hsup (hI.keeps k₂) hne (by decide) ?_
  -- the argument
  have em : ∀ (b : Addr) (o : Obj), h₂.get? b = some o → (h₂.push (kxs_mw "ValueError.__init__" xe)).get? b = some o := fun b o e => Heap.get?_push_of_some _ e
  have emw : (h₂.push (kxs_mw "ValueError.__init__" xe)).get? h₂.objs.size = some (kxs_mw "ValueError.__init__" xe) := Heap.get?_push_at rfl rfl
  have hn₃ : (h₂.push (kxs_mw "ValueError.__init__" xe)).Ns s.heap.objs.size (fun x => [(("self" : Str), Value.ref xe), (("name" : Str), Value.str z tk0)].reverse.lookup x) := (hn.keeps k₂).keeps em
  have hx₃ := em _ _ (k₂ _ _ hx₁)
  have X₃ : K.In (h₂.push (kxs_mw "ValueError.__init__" xe)) := X₂.keeps em
  have k₃ : ∀ b o, s.heap.get? b = some o → (h₂.push (kxs_mw "ValueError.__init__" xe)).get? b = some o := fun b o e => em _ _ (k₂ _ _ (k _ _ e))
  have hsz : h₂.objs.size < (h₂.push (kxs_mw "ValueError.__init__" xe)).objs.size := by rw [Heap.size_push]; exact Nat.lt_succ_self _
  generalize h₂.push (kxs_mw "ValueError.__init__" xe) = h₃ at em emw hn₃ hx₃ X₃ k₃ hsz
  have hA : (Str.empty ++ pre).length ≤ sizeLine := by rw [Str.length_append, sizeLine_eq]; show 0 + _ ≤ _; omega
  have hB : (Str.empty ++ pre ++ z).length ≤ sizeLine := by rw [Str.length_append, Str.length_append, sizeLine_eq]; show 0 + _ + _ ≤ _; omega
  refine kxs_callWith (i := "ValueError.__init__") (x := xe) rfl (evalArgs_plain (spliced_cons (wpAny_JoinedStr (pos := a7) ?_)))
  refine wpAny_Constant_str (k := 0) (pos := a4) ⟨pre, _, rfl, hA, wpAny_FormattedValue_plain (pos := a6) (ldSn (pos := a5) (v := .str z tk0) hn₃ (by with_unfolding_all rfl) (wpAny_formatField_str ⟨_, _, rfl, hB, ⟨hB, spliced_nil ⟨emw, ?_⟩⟩⟩ ⟨_, _, rfl, hB, ⟨hB, spliced_nil ⟨emw, ?_⟩⟩⟩ (by rw [sizeLine_eq]; omega)) rfl (by with_unfolding_all rfl))⟩
  all_goals
    refine call_mwn emw (X₃ _ _ hC) hx₃ (show 1 ≤ sizeLine by rw [sizeLine_eq]; decide) (fun h₄ t1 k₄ hx₄ => ?_)
    -- self.address = address
    have notX : ∀ b o, K.lookup b = some o → b ≠ xe := fun b o e z => by
      have := M.kin _ _ e
      rw [z, hnx] at this
      cases this
    have X₄ : K.In h₄ := fun b o e => k₄ b o (notX b o e) (X₃ b o e)
    have hLx : s.heap.objs.size ≠ xe := Nat.ne_of_gt (Heap.lt_size hx)
    obtain ⟨oL, es, ep, hL, hLr⟩ := hn₃
    have hn₄ : h₄.Ns s.heap.objs.size (fun x => [(("self" : Str), Value.ref xe), (("name" : Str), Value.str z tk0)].reverse.lookup x) := ⟨oL, es, ep, k₄ _ _ hLx hL, hLr⟩
    refine ks_wpAt_execs_cons (ks_wpAt_Assign_Attr ?_)
    have e1 : (fun x => [(("self" : Str), Value.ref xe), (("name" : Str), Value.str z tk0)].reverse.lookup x) "name" = some (.str z tk0) := by with_unfolding_all rfl
    have e2 : (fun x => [(("self" : Str), Value.ref xe), (("name" : Str), Value.str z tk0)].reverse.lookup x) "self" = some (.ref xe) := by with_unfolding_all rfl
    have e3 : (ksEnv qual supSn s.heap.objs.size fI (.ref cda) cc).kindOf "name" = some .local := by with_unfolding_all rfl
    have e4 : (ksEnv qual supSn s.heap.objs.size fI (.ref cda) cc).kindOf "self" = some .local := by with_unfolding_all rfl
    refine wpAt_of_wpAny ?_
    refine ldSn hn₄ e1 ?_ (show supSn.kind = .function from rfl) e3
    refine ldSn hn₄ e2 ?_ (show supSn.kind = .function from rfl) e4
    refine set_plain X₄ (ox := excO C t1) (od := none) ⟨hx₄, rfl, rfl, trivial⟩ T.sa ?_
    refine exc_osa X₄ hx₄ hcl (show refsVE (.ref C :: bm) = true from hbm) rfl T.noN (fun h₅ tk₅ dx k₅ dn dne hx₅ hn₅ => ?_)
    refine wpAt_of_wpAny (wpAny_execs_nil (hq h₅ tk₅ dx t1 ⟨fun b o hb e => k₅ b o hb (k₄ b o hb (k₃ b o e)), hx₅, ?_, dne, hn₅⟩))
    have z : s.heap.objs.size < h₄.objs.size := hn₄.lt
    exact Nat.le_of_lt (Nat.lt_of_lt_of_le z dn)
end
end SupN
end PySem
namespace PySem
namespace SupN
open PySem.W PySem.HandSPX Calls PyProof.Rows PySem.Spec
structure OwnMade (h h' : Heap) (e C d : Addr) (v : Value) : Prop where
  keep : ∀ b o, h.get? b = some o → h'.get? b = some o
  new : h.objs.size ≤ e
  obj : ∃ t1 : Addr, h'.get? e = some { cls := .ref C, dict := some d, data := .fields #[.ref t1, .none, .none, .none, .bool false, .none] }
  dbig : h.objs.size ≤ d
  dne : d ≠ e
  ns : h'.Ns1 d (fun y => if y = "name" then some v else none)
section
variable {prog : Program} {w : World} {A : Around} {E : Value → Shared → Prop} {R : Result → Shared → Prop} {s : Shared} {K : Frag} {mg : Str → Option Value} {C : Addr} {x pre : Str} {base : Heap}
theorem sup_made (T : SupTxt prog K mg C x pre) (M : L2.Mod K mg base) {z : Str} {tk0 : Tok} (bk : ∀ b o, base.get? b = some o → s.heap.get? b = some o) (hlim : s.heap.NoLimit) (hroom : A.depth + 1 < recursionLimit) (hi : z.length ≤ 1000) (hpre : pre.length ≤ 1000)
    (hq : ∀ h' tk e d, OwnMade s.heap h' e C d (.str z tk0) → R (.ok (.ret (.ref e))) { s with heap := h', toks := tk }) :
    codeAny (model prog w) A (.call (.ref C) ⟨[.str z tk0], []⟩) R s := by
  obtain ⟨nm, q, N, bs, bm, sn, sub, ab, col, dd, k0, k1, k2, k3, k5, hC, hbm⟩ := T.cls
  obtain ⟨fI, cc, cda, oc, od, doc, pm, an, ct, osl, p1, p2, a1, a2, a3, a4, a5, a6, a7, a8, a9, a10, a11, a12, a13, vs, file, tf, ccl, cdd, ccs, cl, cld, csl, qual, g1, g2, g3, g4, g5, g6, g7, g8, gL⟩ := T.fn
  have X : K.In s.heap := M.kin.keeps bk
  obtain ⟨hp, g, dr, tk, os⟩ := s
  have k : ∀ b o, hp.get? b = some o → ((hp.push (kdv_tup [Value.str z tk0])).push (excO C hp.objs.size)).get? b = some o := fun b o e => Heap.get?_push_of_some _ (Heap.get?_push_of_some _ e)
  have hget : ((hp.push (kdv_tup [Value.str z tk0])).push (excO C hp.objs.size)).get? (hp.objs.size + 1) = some (excO C hp.objs.size) := by heap_get
  have hnx : base.get? (hp.objs.size + 1) = none := by
    cases e : base.get? (hp.objs.size + 1) with
    | none => rfl
    | some o =>
      have z : hp.get? (hp.objs.size + 1) = some o := bk _ _ e
      exact absurd (Nat.lt_of_succ_lt (Heap.lt_size z)) (Nat.lt_irrefl _)
  refine call_own F.excBase_ValueError (fun X => refsVE_contains X bm hbm) (X _ _ hC) (looks_findIn X g1) (fun self => bind_fn X self g2) (PySem.SupX.one_size _) ?_
  refine sup_init (s := ⟨(hp.push (kdv_tup [Value.str z tk0])).push (excO C hp.objs.size), g, dr, tk, os⟩) T M (fun b o e => k b o (bk b o e)) (hlim.keeps k) hget hnx ?_ g1 hi hpre fun h' tk' dx t1 ⟨k', hx, dn, dne, hns⟩ => ?_
  · show A.depth + 1 < recursionLimit
    exact hroom
  · have old : ∀ b o, hp.get? b = some o → h'.get? b = some o := fun b o e => k' b o (Nat.ne_of_lt (Nat.lt_succ_of_lt (Heap.lt_size e))) (k b o e)
    have z : hp.objs.size + 1 + 1 ≤ dx := by
      first
        | (simpa only [Heap.size_push] using dn)
        | exact dn
        | (have q := dn; rw [Heap.size_push, Heap.size_push] at q; exact q)
    exact ⟨rfl, hq h' tk' (hp.objs.size + 1) dx ⟨old, Nat.le_succ _, ⟨t1, hx⟩, Nat.le_trans (Nat.le_trans (Nat.le_succ _) (Nat.le_succ _)) z, dne, hns⟩⟩
end
end SupN
end PySem
namespace L3
open PySem PySem.Spec PyProof.Rows L2
/-- the dict of such an exception -/
def xdN (z : Str) : HO := .xd [(("name" : Str), V.str z)]
theorem relO_name {v : V} {v' : Value} (r : RelV v v') (f : Str) : RelO (List.lookup f [(("name" : Str), v)]) (if f = "name" then some v' else none) := by
  by_cases hw : f = "name"
  · subst hw
    rw [if_pos rfl]
    have q : List.lookup ("name" : Str) [(("name" : Str), v)] = some v := by simp [List.lookup]
    rw [q]
    exact r
  · rw [if_neg hw]
    have qw : (f == ("name" : Str)) = false := by simpa using hw
    have q2 : List.lookup f [(("name" : Str), v)] = none := by simp [List.lookup, qw]
    rw [q2]
    trivial
section
variable {X : Cx} {C : Addr} {x pre : Str}
/-- C(e) -/
def tMkSupN (C : Addr) (ta : TA) : L2.St → Hp → XK → Prop := fun σ H Q => ta σ H fun vs H1 => ∃ z : Str, vs = [V.str z] ∧ z.length ≤ 1000 ∧ ∀ d, H1 d = none → Q (.ref C) (some d) (upd H1 d (xdN z))
theorem pmk_supN {a : Expr} {ta : TA} {p pos : Pos} {k : Nat} (T : PySem.SupN.SupTxt X.prog X.K X.mg C x pre) (hpre : pre.length ≤ 1000) (hr : Room k X.A) (ha : PA X [a] ta) (hg : Gl X x := by rfl) (hdb : (x == ("__debug__" : Str)) = false := by decide)
    (he : starEach (a :: []) X.env = (false, eval a X.env) :: starEach [] X.env := by rfl) (hpl : (backTo pos (starEach [] X.env)).any (·.1) = false := by rfl) :
    L2N.PMk X (.Call (.Name x p) [a] [] pos) (tMkSupN C ta) := by
  intro pins s σ H Q I h
  refine wpAny_Call_Name_kw (ld_glob I hg T.gC ?_ hdb)
  refine PySem.W.callWith_K (h₀ := X.base) I.ok.mod.kin T.kC (thn (ha.run pos pins s σ H _ I h) fun us s1 hh => ?_) he hpl
  obtain ⟨vs, H1, I1, r1, z, ev, hi, q1⟩ := hh
  subst ev
  refine ⟨I1.kIn, ?_⟩
  cases r1 with
  | cons rv rn =>
    rename_i v' us'
    cases rn
    obtain ⟨tk0, rfl⟩ := rv
    show wpAny _ _ (call (.ref C) [.str z tk0]) _ _ _
    have hlim := I1.nolimit
    have bk := I1.bk
    have md := I1.mod
    obtain ⟨hp, g, dr, tk, os⟩ := s1
    refine wpAny_call (PySem.SupN.sup_made T md bk hlim (by have := hr.dp; show X.A.depth + 1 < _; omega) hi hpre fun h' tk' e d M => ?_)
    show L2N.MkP X pins σ Q (.ref e) ⟨h', g, dr, tk', os⟩
    obtain ⟨t1, hoe⟩ := M.obj
    have hns := M.ns
    obtain ⟨G', g1, g2⟩ := restrict h' fun b => decide (b ≠ e)
    have gk : ∀ b, b ≠ e → G'.get? b = h'.get? b := fun b hb => g1 b (decide_eq_true hb)
    have ge : G'.get? e = none := g2 e (by simp)
    have old : ∀ b o, hp.get? b = some o → G'.get? b = some o := fun b o q => (gk b (Nat.ne_of_lt (Nat.lt_of_lt_of_le (Heap.lt_size q) M.new))).trans (M.keep b o q)
    have ob : ObjOk X.prog X.w (upd H1 d (xdN z)) G' d (xdN z) :=
      ⟨_, hns.at (fun o q => (gk d M.dne).trans q), fun f => relO_name (v := .str z) ⟨tk0, rfl⟩ f⟩
    have J : Inv X pins σ (upd H1 d (xdN z)) ⟨G', g, dr, tk', os⟩ := I1.laid (t' := tk') old M.dbig ob
    refine ⟨e, _, _, ⟨G', g, dr, tk', os⟩, _, .ref C, some d, rfl, J, fun b o q => ?_, ge, hoe, ⟨rfl, rfl, fun vs e => by cases e; rfl⟩, rfl, rfl, ?_, rfl, I1.bare, raises_own T.exC T.tyC, q1 d (I1.hok.fresh M.dbig)⟩
    · by_cases hb : b = e
      · have q' : G'.get? b = some o := q
        rw [hb, ge] at q'; cases q'
      · exact (gk b hb).symm.trans q
    · rw [upd_ne (Ne.symm M.dne)]
      exact I1.hok.fresh M.new
end
end L3
end

section
/-! Law-independent layer 14: zip of tuples while an exception is handled; slices with a step; methods called with a keyword -/
namespace L3
open PySem PySem.Spec PyProof.Rows L2 HotX RZ
section
variable {prog : Program} {w : World} {A : Around} {E : Value → Shared → Prop} {s : Shared}
theorem nextOf_end_hot {it l x1 : Addr} {i : Nat} {items} {Q : Value → Shared → Prop} (hot : HotAt A x1 s.heap) (hni : x1 ≠ it)
    (hit : s.heap.IsTupleIter it l i) (hl : s.heap.IsTuple l items) (hx : items[i]? = none)
    (hE : ∀ h' e, Heap.ExtBut it s.heap h' → (∃ o, h'.get? e = some o ∧ o.cls = .type "StopIteration") → E (.ref e) { s with heap := h' }) :
    wpAny (model prog w) A (Builtin.SmallTypes.nextOf (.ref it)) Q E s := by
  obtain ⟨hh, o1, vs1, g1, d1, c1⟩ := hot
  obtain ⟨o, ho, hc, hd⟩ := id hit
  obtain ⟨ol, hol, _, nl, hdl⟩ := hl
  unfold Builtin.SmallTypes.nextOf
  refine wpAny_bind (wpAny_callSpecial?_slot (name := Str.ofString "__next__") hit.typeIs F.slot_tuple_iterator_next
    (wpAny_call_entry F.slot_tuple_iterator_next hit.typeIs F.entry_tuple_iterator_next ?_ (F.args_tuple_iterator_next_1 _)))
  show wpAny _ _ (field (.ref it) 0 >>= _) _ _ s
  refine wpAny_bind (wpAny_field ho hd (x := .ref l) rfl ?_)
  show wpAny _ _ (if (Value.ref l == Value.none) = true then _ else _) _ _ s
  rw [if_neg (show ¬ ((Value.ref l == Value.none) = true) from Bool.false_ne_true)]
  show wpAny _ _ (field (.ref it) 1 >>= _) _ _ s
  refine wpAny_bind (wpAny_field ho hd (x := .int i 0) rfl ?_)
  show wpAny _ _ (seqItems? (.ref l) >>= _) _ _ s
  refine wpAny_bind (wpAny_seqItems hol hdl ?_)
  simp only [Int.toNat_natCast, hx]
  refine wpAny_bind (wpAny_rule (wpAny_bind (wpAny_setField ho hd (by simp) ?_)))
  show wpAny _ _ (newExc (.type "StopIteration") [] >>= _) _ _ _
  refine wpAny_bind ?_
  simp only [newExc, newTuple]
  refine wpAny_bind (wpAny_newObj_type ?_ (by size_fits))
  refine wpAny_bind (m := firstArgMember _ _) (wpAny_of_eq (a := Value.none) (by first | rfl | (simp only [firstArgMember]; rfl)) ?_)
  refine wpAny_newObj_type ?_ (by size_fits)
  have g2 := (Heap.get?_update_other s.heap (Obj.mapFields (·.setIfInBounds 0 Value.none)) (Ne.symm hni)).trans g1
  refine raiseNew_hot ⟨hh, o1, vs1, Heap.get?_push_of_some _ (Heap.get?_push_of_some _ g2), d1, c1⟩ (Nat.ne_of_lt (Heap.lt_size (Heap.get?_push_of_some _ g2))) (Heap.get?_push_size _ rfl) rfl (by first | (simp; done) | (simp; omega) | (simp only [Array.size_append]; simp; omega)) ?_
  refine hE _ _ (fun b o hb e => ?_) ⟨_, Heap.get?_update_self _ (Heap.get?_push_size _ rfl) rfl, rfl⟩
  have e0 := (Heap.get?_update_other s.heap (Obj.mapFields (·.setIfInBounds 0 Value.none)) (Ne.symm hb)).trans e
  rw [Heap.get?_update_other _ _ (Nat.ne_of_gt (Heap.lt_size (Heap.get?_push_of_some _ e0)))]; exact Heap.get?_push_of_some _ (Heap.get?_push_of_some _ e0)
theorem zip_end_hot {z TI TO i1 i2 l1 l2 x1 : Addr} {k1 k2 : Nat} {xs ys : Array Value} {a b : Value} {Q : Fin → Shared → Prop} (hot : HotAt A x1 s.heap) (D : ZipApart z TI TO i1 i2 l1 l2)
    (nz : x1 ≠ z) (nO : x1 ≠ TO) (n1 : x1 ≠ i1) (n2 : x1 ≠ i2)
    (hz : IsZip s.heap z TI TO .none) (hTI : IsPair s.heap TI (.ref i1) (.ref i2)) (hTO : IsPair s.heap TO a b)
    (h1 : s.heap.IsTupleIter i1 l1 k1) (h2 : s.heap.IsTupleIter i2 l2 k2) (hl1 : s.heap.IsTuple l1 xs) (hl2 : s.heap.IsTuple l2 ys) (hend : xs[k1]? = none ∨ ys[k2]? = none)
    (hE : ∀ h' e, (∀ c o, c ≠ z → c ≠ TO → c ≠ i1 → c ≠ i2 → s.heap.get? c = some o → h'.get? c = some o) → (∃ o, h'.get? e = some o ∧ o.cls = .type "StopIteration") → E (.ref e) { s with heap := h' }) :
    wpAny (model prog w) A (Builtin.«zip.__next__» ⟨[.ref z], []⟩) Q E s := by
  obtain ⟨hh, o1, vs1, g1, d1, c1⟩ := hot
  show wpAny _ _ (field (.ref z) 2 >>= _) _ _ _
  refine wpAny_bind (wpAny_field hz rfl (x := .bool false) rfl ?_)
  show wpAny _ _ (field (.ref z) 3 >>= _) _ _ _
  refine wpAny_bind (wpAny_field hz rfl (x := .ref TI) rfl ?_)
  refine wpAny_bind (wpAny_seqItems hTI rfl ?_)
  show wpAny _ _ (Builtin.SmallTypes.ownedTupleIsFree (.ref z) >>= _) _ _ _
  refine wpAny_bind ?_
  unfold Builtin.SmallTypes.ownedTupleIsFree
  refine wpAny_bind (wpAny_field hz rfl (x := .none) rfl (wpAny_pure ?_))
  simp only [if_true]
  refine wpAny_bind (wpAny_rule ?_)
  refine wpAny_bind (wpAny_field hz rfl (x := .ref TO) rfl ?_)
  refine wpAny_bind (wpAny_setField_rec hz (by simp) fun h₁ hz₁ hs₁ => ?_)
  replace hz₁ : IsZip h₁ z TI TO .ellipsis := hz₁
  have x₁ := hs₁.extBut _ _ nz g1
  refine wpAny_bind ?_
  simp only [List.zipIdx_cons, List.zipIdx_nil, List.forIn_cons, List.forIn_nil]
  refine wpAny_bind (wpAny_bind (wpAny_onRaise ?_))
  show wpAny _ _ (Builtin.SmallTypes.nextOf (.ref i1) >>= _) _ _ _
  cases hx : xs[k1]? with
  | none =>
    refine wpAny_bind (nextOf_end_hot (x1 := x1) ⟨hh, o1, vs1, x₁, d1, c1⟩ n1 (h1.extBut hs₁.extBut D.i1z) (hl1.extBut hs₁.extBut D.l1z) hx fun h₂ e hs₂ he => ?_)
    obtain ⟨oe, hoe, hce⟩ := he
    have hz₂ : IsZip h₂ z TI TO .ellipsis := hs₂ _ _ D.i1z.symm hz₁
    have hez : e ≠ z := fun x => by subst x; rw [hz₂] at hoe; cases hoe; simp at hce
    refine wpAny_setField_rec hz₂ (by simp) fun h₃ _ hs₃ => hE h₃ e (fun c o c1 _ c3 _ x => hs₃.extBut _ _ c1 (hs₂ _ _ c3 (hs₁.extBut _ _ c1 x))) ⟨oe, hs₃.extBut _ _ hez hoe, hce⟩
  | some x =>
    have hy : ys[k2]? = none := by rcases hend with h | h; rw [hx] at h; cases h; exact h
    refine wpAny_bind (nextOf_tuple_item (h1.extBut hs₁.extBut D.i1z) (hl1.extBut hs₁.extBut D.l1z) hx fun h₂ h1₂ hs₂ => wpAny_pure ?_)
    have hTO₂ : IsPair h₂ TO a b := hs₂.extBut _ _ D.TOi1 (hs₁.extBut _ _ D.TOz hTO)
    have x₂ := hs₂.extBut _ _ n1 x₁
    refine wpAny_bind (wpAny_seqItems hTO₂ rfl ?_)
    refine wpAny_bind (wpAny_updateSeq_pair hTO₂ fun h₃ hTO₃ hs₃ => ?_)
    have x₃ := hs₃.extBut _ _ nO x₂
    refine wpAny_bind (wpAny_letGo (wpAny_pure ?_))
    refine wpAny_bind (wpAny_bind (wpAny_onRaise ?_))
    show wpAny _ _ (Builtin.SmallTypes.nextOf (.ref i2) >>= _) _ _ _
    refine wpAny_bind (nextOf_end_hot (x1 := x1) ⟨hh, o1, vs1, x₃, d1, c1⟩ n2 (((h2.extBut hs₁.extBut D.i2z).extBut hs₂.extBut D.i12.symm).extBut hs₃.extBut D.TOi2.symm)
      (((hl2.extBut hs₁.extBut D.l2z).extBut hs₂.extBut D.l2i1).extBut hs₃.extBut D.l2TO) hy fun h₄ e hs₄ he => ?_)
    obtain ⟨oe, hoe, hce⟩ := he
    have hz₄ : IsZip h₄ z TI TO .ellipsis := hs₄ _ _ D.i2z.symm (hs₃.extBut _ _ D.TOz.symm (hs₂.extBut _ _ D.i1z.symm hz₁))
    have hez : e ≠ z := fun x => by subst x; rw [hz₄] at hoe; cases hoe; simp at hce
    refine wpAny_setField_rec hz₄ (by simp) fun h₅ _ hs₅ => hE h₅ e (fun c o c1 c2 c3 c4 x => hs₅.extBut _ _ c1 (hs₄ _ _ c4 (hs₃.extBut _ _ c2 (hs₂.extBut _ _ c3 (hs₁.extBut _ _ c1 x))))) ⟨oe, hs₅.extBut _ _ hez hoe, hce⟩
theorem pyNext_zip_end_hot {z TI TO i1 i2 l1 l2 x1 : Addr} {k1 k2 : Nat} {xs ys : Array Value} {a b : Value} {Q : Option Value → Shared → Prop} (hot : HotAt A x1 s.heap) (D : ZipApart z TI TO i1 i2 l1 l2)
    (nz : x1 ≠ z) (nO : x1 ≠ TO) (n1 : x1 ≠ i1) (n2 : x1 ≠ i2)
    (hz : IsZip s.heap z TI TO .none) (hTI : IsPair s.heap TI (.ref i1) (.ref i2)) (hTO : IsPair s.heap TO a b)
    (h1 : s.heap.IsTupleIter i1 l1 k1) (h2 : s.heap.IsTupleIter i2 l2 k2) (hl1 : s.heap.IsTuple l1 xs) (hl2 : s.heap.IsTuple l2 ys) (hend : xs[k1]? = none ∨ ys[k2]? = none)
    (hQ : ∀ h', (∀ c o, c ≠ z → c ≠ TO → c ≠ i1 → c ≠ i2 → s.heap.get? c = some o → h'.get? c = some o) → Q none { s with heap := h' }) : wpAny (model prog w) A (pyNext (.ref z)) Q E s := by
  have hT : s.TypeIs (.ref z) "zip" := ⟨_, hz, rfl⟩
  unfold pyNext
  refine wpAny_bind (wpAny_attempt (wpAny_callSpecial?_slot (name := Str.ofString "__next__") hT F.slot_zip_next
    (wpAny_call_entry F.slot_zip_next hT F.entry_zip_next (zip_end_hot (x1 := x1) hot D nz nO n1 n2 hz hTI hTO h1 h2 hl1 hl2 hend fun h' e hk he => ?_) (F.args_zip_next_1 _))))
  obtain ⟨o, ho, hc⟩ := he
  refine wpAny_bind (wpAny_isInstance (T := "StopIteration") (b := true) ⟨o, ho, hc⟩ isSubtype_stop ?_)
  exact wpAny_pure (hQ _ hk)
end
theorem turn_zipTH {P : Program} {w : World} {K : PySem.W.Frag} {elts : List Expr} {kk : Nat} {tpos : Pos} {a b z TI TO i1 i2 : Addr} (D : ZipApart z TI TO i1 i2 a b) :
    L2H.TurnH P w K (.Tuple elts kk tpos) (ItzT K a b) [z, TI, TO, i1, i2] z (fun i h => IsZip h z TI TO .none ∧ IsPair h TI (.ref i1) (.ref i2) ∧ (∃ x y, IsPair h TO x y) ∧ h.IsTupleIter i1 a i ∧ h.IsTupleIter i2 b i) where
  mem := (turn_zipT (P := P) (w := w) (K := K) (elts := elts) (kk := kk) (tpos := tpos) D).mem
  obj := (turn_zipT (P := P) (w := w) (K := K) (elts := elts) (kk := kk) (tpos := tpos) D).obj
  keep := (turn_zipT (P := P) (w := w) (K := K) (elts := elts) (kk := kk) (tpos := tpos) D).keep
  item := by
    intro X hP hw hK hc i pins s σ H E I hf st hg
    subst hP hw hK
    obtain ⟨hz, hTI, ⟨x0, y0, hTO⟩, h1, h2⟩ := st
    obtain ⟨xs, ys, x, y, hqx, hqy, hx, hy⟩ := hg
    obtain ⟨its, rv, p, _⟩ := I.tuple hqx
    obtain ⟨its2, rv2, p2, _⟩ := I.tuple hqy
    obtain ⟨u, hu, ru⟩ := rv.get hx
    obtain ⟨u2, hu2, ru2⟩ := rv2.get hy
    have hzl : z < s.heap.objs.size := Heap.lt_size hz
    refine pyNext_zipT_item D hz hTI hTO h1 h2 p p2 (x := u) (y := u2) (by simpa using hu) (by simpa using hu2) fun h' z' TO' h1' h2' hT hsz hk => ?_
    refine ⟨_, rfl, wpAny_letOwnedTupleGo_zip (s := { s with heap := h' }) z' fun h'' z'' sb => ?_⟩
    have hT2 : h''.get? s.heap.objs.size = some { cls := .type "tuple", data := .seq #[u, u2] } := (sb.2 _ (Nat.ne_of_gt hzl)).trans hT
    have new : ObjOk X.prog X.w (upd H s.heap.objs.size (.tup [x, y])) h'' s.heap.objs.size (.tup [x, y]) :=
      ⟨by show 2 ≤ sizeLine; decide, [u, u2], .cons ru (.cons ru2 .nil), ⟨_, hT2, rfl, _, rfl⟩⟩
    have I1 : Inv X pins σ (upd H s.heap.objs.size (.tup [x, y])) { s with heap := h'' } :=
      I.turnedNew (t' := s.toks) (ch := [z, TI, TO, i1, i2]) (fun c o hb q => (sb.2 c (fun q' => hb (by simp [q']))).trans (hk c o (fun q' => hb (by simp [q'])) (fun q' => hb (by simp [q'])) (fun q' => hb (by simp [q'])) (fun q' => hb (by simp [q'])) q)) hf (Nat.le_refl _) new
    refine ⟨.ref s.heap.objs.size, _, I1, rfl, ⟨_, x, y, rfl, I.hok.fresh (Nat.le_refl _), rfl, fun l hl => by rw [I.tuple_inj hl hqx]; exact hx, fun l hl => by rw [I.tuple_inj hl hqy]; exact hy⟩, ⟨z'', ?_, ⟨u, u2, ?_⟩, ?_, ?_⟩, fun c hcm => ?_⟩
    · exact (sb.2 _ D.TIz).trans (hk _ _ D.TIz D.TITO D.TIi1 D.TIi2 hTI)
    · exact (sb.2 _ D.TOz).trans TO'
    · exact h1'.at fun o q => (sb.2 _ D.i1z).trans q
    · exact h2'.at fun o q => (sb.2 _ D.i2z).trans q
    · have hlt : c < s.heap.objs.size := by
        have e' : c = z ∨ c = TI ∨ c = TO ∨ c = i1 ∨ c = i2 := by simpa using hcm
        rcases e' with q | q | q | q | q
        · rw [q]; exact hzl
        · rw [q]; exact Heap.lt_size hTI
        · rw [q]; exact Heap.lt_size hTO
        · rw [q]; obtain ⟨_, e1, _⟩ := h1; exact Heap.lt_size e1
        · rw [q]; obtain ⟨_, e2, _⟩ := h2; exact Heap.lt_size e2
      rw [upd_ne (Nat.ne_of_lt hlt)]
      exact (hf c hcm).1
  done := by
    intro X hP hw hK hc i pins s σ H E I hf st hg
    subst hP hw hK
    obtain ⟨hz, hTI, ⟨x0, y0, hTO⟩, h1, h2⟩ := st
    obtain ⟨xs, ys, hqx, hqy, hend⟩ := hg
    obtain ⟨its, rv, p, _⟩ := I.tuple hqx
    obtain ⟨its2, rv2, p2, _⟩ := I.tuple hqy
    have l1 := rv.length
    have l2 := rv2.length
    have he : its.toArray[i]? = none ∨ its2.toArray[i]? = none := by
      rcases hend with q | q
      · exact .inl (by simp; omega)
      · exact .inr (by simp; omega)
    obtain ⟨x1, hot⟩ := hc.at I
    obtain ⟨hh, o1, vs1, g1, d1, c1⟩ := id hot
    have nz : x1 ≠ z := fun e => by
      rw [e, hz] at g1
      cases g1
      cases d1
      simp at c1
    have nO : x1 ≠ TO := fun e => by
      rw [e, hTO] at g1
      cases g1
      cases d1
    have ni : ∀ {i3 l3 : Addr} {k3 : Nat}, s.heap.IsTupleIter i3 l3 k3 → x1 ≠ i3 := fun {i3 l3 k3} h e => by
      obtain ⟨o, ho, _, hd⟩ := h
      rw [e, ho] at g1
      cases g1
      rw [hd] at d1
      cases d1
      simp at c1
    exact pyNext_zip_end_hot hot D nz nO (ni h1) (ni h2) hz hTI hTO h1 h2 p p2 he fun h' hk => ⟨rfl, I.turnedL (t' := s.toks) (ch := [z, TI, TO, i1, i2]) (fun c o hb q =>
      hk c o (fun q' => hb (by simp [q'])) (fun q' => hb (by simp [q'])) (fun q' => hb (by simp [q'])) (fun q' => hb (by simp [q'])) q) hf⟩
  self := fun A i s Q E st h => wpAny_pyIter_zip st.1 h
def iZipTH (K : PySem.W.Frag) (ta : TA) : TI := fun σ H R => ta σ H fun vs H1 => ∃ a b xs ys, vs = [.ref a, .ref b] ∧ SqT K H1 a xs ∧ SqT K H1 b ys ∧ R (ItzT K a b) H1
theorem pi_zipTH {X : Cx} {e e2 : Expr} {ta : TA} {p pos tpos : Pos} {elts : List Expr} {kk : Nat} (hg : Gl X "zip") (hm : X.mg "zip" = none) (ha : PA X [e, e2] ta)
    (hs : starEach [e, e2] X.env = (false, eval e X.env) :: starEach [e2] X.env := by rfl) (hpl : (backTo pos (starEach [e2] X.env)).any (·.1) = false := by rfl) :
    L2H.PIH X (.Tuple elts kk tpos) (.Call (.Name "zip" p) [e, e2] [] pos) (iZipTH X.K ta) := by
  refine ⟨fun pins s σ H R I h => ?_⟩
  refine Call_ (ld_blt I hg hm PyProof.Rows.boot_zip (PyProof.Rows.callWith_type1 (thn (ha.run pos pins s σ H _ I h) fun us s1 ⟨vs, H1, I1, r1, q1⟩ => ?_) hs hpl))
  obtain ⟨a, b, xs, ys, ex, hqx, hqy, q⟩ := q1
  subst ex
  cases r1 with
  | cons r rr =>
    cases rr with
    | cons r' rr =>
      cases rr
      cases r
      cases r'
      have fresh5 : ∀ c, c ∈ [s1.heap.objs.size + 4, s1.heap.objs.size + 2, s1.heap.objs.size + 3, s1.heap.objs.size, s1.heap.objs.size + 1] → FpOk X pins H1 c := fun c hcm => by
        have e' : c = s1.heap.objs.size + 4 ∨ c = s1.heap.objs.size + 2 ∨ c = s1.heap.objs.size + 3 ∨ c = s1.heap.objs.size ∨ c = s1.heap.objs.size + 1 := by simpa using hcm
        have hle : s1.heap.objs.size ≤ c := by
          rcases e' with z | z | z | z | z
          · rw [z]; exact Nat.le_add_right _ _
          · rw [z]; exact Nat.le_add_right _ _
          · rw [z]; exact Nat.le_add_right _ _
          · rw [z]; exact Nat.le_refl _
          · rw [z]; exact Nat.le_add_right _ _
        exact I1.fpOk hle (I1.hok.fresh hle)
      obtain ⟨its, rv, p1, _⟩ := I1.tuple hqx
      obtain ⟨its2, rv2, p2, _⟩ := I1.tuple hqy
      obtain ⟨o1, ho1, _⟩ := id p1
      obtain ⟨o2, ho2, _⟩ := id p2
      refine call_zipT (show s1.heap.IsTuple a its.toArray from p1) (show s1.heap.IsTuple b its2.toArray from p2) fun h' hz hTI hTO h1 h2 hsz hk => wpAny_pyIter_zip hz ?_
      have I2 : Inv X pins σ H1 { s1 with heap := h' } := I1.kept (t' := s1.toks) hk
      exact ⟨s1.heap.objs.size + 4, [s1.heap.objs.size + 4, s1.heap.objs.size + 2, s1.heap.objs.size + 3, s1.heap.objs.size, s1.heap.objs.size + 1], _, _, H1, rfl, I2, turn_zipTH (PySem.W.ktu_apart s1.heap.objs.size a b (Heap.lt_size ho1) (Heap.lt_size ho2)), ⟨hz, hTI, ⟨_, _, hTO⟩, h1, h2⟩, fresh5, q⟩
/-! ### slices with a step -/
theorem Vals.pick {xs : List V} {its : List Value} (r : Vals xs its) : ∀ ix : List Nat, Vals (ix.filterMap fun i => xs[i]?) (ix.filterMap fun i => its[i]?)
  | [] => .nil
  | i :: ix => by
    cases hx : xs[i]? with
    | none =>
      have h2 : its[i]? = none := by
        rw [List.getElem?_eq_none_iff] at hx ⊢
        have := r.length
        omega
      rw [List.filterMap_cons_none hx, List.filterMap_cons_none h2]
      exact Vals.pick r ix
    | some x =>
      obtain ⟨u, hu, ru⟩ := r.get hx
      rw [List.filterMap_cons_some hx, List.filterMap_cons_some hu]
      exact .cons ru (Vals.pick r ix)
/-- the items of xs[lo::st], the first ones being skipped: some of xs -/
def tStepL (K : PySem.W.Frag) (te : TE) : TE := fun σ H Q => te σ H fun x H1 => ∃ a xs, x = .ref a ∧ SqL K H1 a xs ∧ xs.length ≤ 1000 ∧ ∀ p ys, H1 p = none → (∀ y ∈ ys, y ∈ xs) → ys.length ≤ 1000 → Q (.ref p) (upd H1 p (.lst ys))
theorem pe_stepL {e : Expr} {te : TE} {X : Cx} {n m : Int} {k1 k2 : Nat} {p1 p2 p3 pos : Pos} (he : PE X e te) (hn : 0 ≤ n) (hm : 0 < m) : PE X (.Subscript e (.Slice (some (.Constant (.int n) k1 p1)) none (some (.Constant (.int m) k2 p2)) p3) pos) (tStepL X.K te) := by
  refine ⟨fun pins s σ H Q I h => ?_⟩
  refine Subscript_ (thn (he.run pins s σ H _ I h) fun v s1 ⟨x, H1, I1, r1, q1⟩ => ?_)
  obtain ⟨a, xs, ex, hx, hxl, q⟩ := q1
  subst ex
  cases r1
  have hlo : PO X (some (.Constant (.int n) k1 p1)) (tPart (tC (.int n))) := po_some pe_int
  have hst : PO X (some (.Constant (.int m) k2 p2)) (tPart (tC (.int m))) := po_some pe_int
  refine wpAny_Slice (thn (hlo.run pins s1 σ H1 (fun o H2 => o = some n ∧ H2 = H1) I1 ⟨n, rfl, rfl, rfl⟩) fun vl s2 ⟨l, H2, I2, pl, el, e2⟩ => ?_)
  subst el e2
  refine thn (po_none.run pins s2 σ H2 (fun o H3 => o = none ∧ H3 = H2) I2 ⟨rfl, rfl⟩) fun vu s3 ⟨u, H3, I3, pu, eu, e3⟩ => ?_
  subst eu e3
  refine thn (hst.run pins s3 σ H3 (fun o H4 => o = some m ∧ H4 = H3) I3 ⟨m, rfl, rfl, rfl⟩) fun vs s4 ⟨o, H4, I4, ps, eo, e4⟩ => ?_
  subst eo e4
  have I5 : Inv X pins σ H4 { s4 with heap := s4.heap.push { cls := .type "slice", data := .fields #[vl, vu, vs] } } := I4.kept (t' := s4.toks) fun b ob q => Heap.get?_push_of_some _ q
  obtain ⟨its, r, ht, hz⟩ := I5.list hx
  have hlen := r.length
  show wpAny (model X.prog X.w) X.A (subscriptTail e (.Slice (some (.Constant (.int n) k1 p1)) none (some (.Constant (.int m) k2 p2)) p3) (.ref a) (.ref s4.heap.objs.size)) (EP X pins σ Q) X.xe { s4 with heap := s4.heap.push { cls := .type "slice", data := .fields #[vl, vu, vs] } }
  refine tail_any (ops := [.ref a, .ref s4.heap.objs.size]) ht.isList.typeIs (PySem.slot_list_getitem.lookup) ?_ (by with_unfolding_all rfl)
  refine wpAny_getItem_list_slice ht.isList (Heap.IsSliceOf.new _ vl vu vs) pl pu ps (fun z => by have := Option.some.inj z; omega) ?_ (by rw [List.size_toArray]; omega)
  obtain ⟨ix, hix, hlx⟩ : ∃ ix : List Nat, slicePick its.toArray (some n) none (some m) = (ix.filterMap fun i => its[i]?).toArray ∧ ix.length ≤ its.length := by
    refine ⟨sliceRange (sliceBounds (some n) none (some m) its.toArray.size).1 (sliceBounds (some n) none (some m) its.toArray.size).2.1 (sliceBounds (some n) none (some m) its.toArray.size).2.2, ?_, ?_⟩
    · unfold slicePick
      simp only [List.getElem?_toArray]
    · unfold sliceBounds sliceRange
      simp only [Option.getD_some, List.size_toArray, List.length_map, List.length_range]
      have h1 : ¬ n < 0 := by omega
      simp only [if_pos (show m > 0 from hm), if_neg h1]
      have h2 : (0 : Int) ≤ max 0 (min n (its.length : Int)) := Int.le_max_left ..
      generalize max 0 (min n (its.length : Int)) = lo at h2
      split
      · rename_i hlt
        have h3 : ((its.length : Int) - lo + m - 1) / m ≤ its.length := by
          refine Int.ediv_le_of_le_mul hm ?_
          have : (its.length : Int) * 1 ≤ its.length * m := Int.mul_le_mul_of_nonneg_left (by omega) (by omega)
          have h4 : ((its.length : Int) - 1) * 1 ≤ ((its.length : Int) - 1) * m := Int.mul_le_mul_of_nonneg_left (by omega) (by omega)
          have h5 : (its.length : Int) * m = ((its.length : Int) - 1) * m + m := by rw [Int.sub_mul]; omega
          omega
        omega
      · simp
  rw [hix]
  have rp := Vals.pick r ix
  have lp : (ix.filterMap fun i => xs[i]?).length ≤ xs.length := by
    have := List.length_filterMap_le (fun i => xs[i]?) ix
    omega
  refine ⟨.ref _, _, I5.laid (t' := s4.toks) (o := .lst (ix.filterMap fun i => xs[i]?)) (fun b ob q => Heap.get?_push_of_some _ q) (Nat.le_refl _) ?_, rfl, q _ _ (I5.hok.fresh (Nat.le_refl _)) (fun y hy => ?_) (by omega)⟩
  · exact ⟨Nat.le_trans lp hz, _, 0, rp, Heap.get?_push_size _ rfl⟩
  · obtain ⟨i, _, hi⟩ := List.mem_filterMap.mp hy
    exact List.mem_of_getElem? hi
/-! ### a method called with a keyword -/
section
variable (P : Program) (w : World) (K : PySem.W.Frag) (mg : Str → Option Value) (base : Heap) (CX : CXT) (k : Nat)
/-- .. n values, then keywords ks: the values in the parameters' order -/
structure MetK (C : Addr) (m : Str) (n : Nat) (ps ks : List Str) (sp : Sp) : Prop where
  ok : ∃ f fd, FnOk P w K mg base CX k f fd ps sp ∧ Meth K C m f ∧ KBn K fd ps n ks (fun us ws => us ++ ws) (fun us ws => us ++ ws)
end
theorem metK_mkX {P : Program} {w : World} {K : PySem.W.Frag} {mg : Str → Option Value} {base : Heap} {CX : CXT} {k : Nat} {x qual : Str} {C : Addr} {params : Arguments} {body : List Stmt} {scope : Scope} {n : Nat} {N ps ks : List Str} {sp : Sp} {f : Addr}
    (F : ∃ fd, FunD K x qual params body scope [] [] f fd) (hm : Meth K C x f) (S : FnScope N ps scope)
    (hb : ∀ (kV doc pm : Value) (an : Option Addr) (cdv ct : Value) (us ws : List Value), us.length = n → ws.length = ks.length → bindArgs (PySem.W.fnOf x qual params body scope .none kV doc pm an cdv ct) ⟨us, ks.zip ws⟩ = pure (ps.zip (us ++ ws)))
    (len : ∀ vs H Q E, sp vs H Q E → vs.length = ps.length)
    (hbody : ∀ (f : Addr) (cdv : Value) (A : Around) (outer : List Env) (s : Shared) (H : Hp) (vs : List V) (Q : VK) (E : XK), Room k (A.deeper (envOfC qual scope s.heap.objs.size f cdv)) → sp vs H Q E →
      ∃ t, PSs (cxOf CX P w K mg base N qual scope f cdv A outer s H E) body t ∧ t { nx := fun _ H' => Q .non H', rt := Q } (start N vs) H) : MetK P w K mg base CX (k + 1) C x n ps ks sp := by
  obtain ⟨fd, F⟩ := F
  refine ⟨f, fd, F.ok S len (fun cdv A outer s H vs Q E hr h => hbody f cdv A outer s H vs Q E hr h), hm, ⟨fun s us ws _ l1 l2 => ?_, fun r rz => r.append rz⟩⟩
  obtain ⟨oc, od, dV, kV, doc, pm, an, cdv, ct, osl, rfl, lk, hcd, hD, hK⟩ := F.ex
  rcases hD with ⟨_, rfl⟩ | ⟨e, _⟩
  · exact .of_eq (hb kV doc pm an cdv ct us ws l1 l2)
  · exact absurd rfl e
def tMethK (C : Addr) (m : Str) (n j : Nat) (sp : Sp) (E : XK) (ta : TE) (t tk : TA) : TE := fun σ H Q => ta σ H fun x H1 => ∃ a dx fs, x = .ref a ∧ H1 a = some (.ins C dx fs) ∧ fs.lookup m = none ∧ t σ H1 fun vs H2 => tk σ H2 fun zs H3 => vs.length + 1 = n ∧ zs.length = j ∧ sp (x :: (vs ++ zs)) H3 Q E
theorem pe_metK {X : Cx} {CX : CXT} {k j n : Nat} {m : Str} {C : Addr} {ps ks : List Str} {sp : Sp} {E : XK} {pos apos : Pos} {e o : Expr} {es : List Expr} {kws : List Keyword} {ta : TE} {t tk : TA} {pl : Sem Bool} (he : PE X o ta) (c : Cls X.K C) (cm : MetK X.prog X.w X.K X.mg X.base CX k C m n ps ks sp) (hr : Room j X.A) (hk : k ≤ j) (hx : Passes CX X E) (ha : PA X (e :: es) t) (hkw : PK X kws tk)
    (hall : (backToKw pos (keywordEach kws X.env)).all (·.1.isSome) = true := by rfl) (hks : (backToKw pos (keywordEach kws X.env)).filterMap (·.1) = ks := by rfl)
    (hst : starEach (e :: es) X.env = (false, eval e X.env) :: starEach es X.env := by rfl) (hpl : ((backTo pos (starEach (e :: es) X.env)).any (·.1) || (backToKw pos (keywordEach kws X.env)).any (·.1.isNone)) = false := by rfl)
    (ht : eval (.Call (.Attribute o m apos) (e :: es) kws pos) X.env = (do
      let ov ← eval o X.env
      standAt apos.atName
      let (f, first) ← holding [ov] (getMethod ov m pl)
      callWith pos f first (backTo pos (starEach (e :: es) X.env)) (backToKw pos (keywordEach kws X.env))) := by rfl) :
    PE X (.Call (.Attribute o m apos) (e :: es) kws pos) (tMethK C m n ks.length sp E ta t tk) := by
  obtain ⟨f, fd, F, M, hb⟩ := cm.ok
  refine ⟨fun pins s σ H Q I h => ?_⟩
  refine PySem.W.methodCall_KW (pl := pl) (thn (he.run pins s σ H _ I h) fun u s1 ⟨x, H1, I1, rx, a, dx, fs, ex, ea, l, q⟩ => ?_) ht
  subst ex
  obtain rfl : u = Value.ref a := rx
  refine getmeth_ok I1 ea c M l ?_
  refine PySem.W.callWith_KW (first := [.ref a]) (h₀ := X.base) I.ok.mod.kin M.kp hall (thn (ha.run pos pins s1 σ H1 _ I1 q) fun us s2 ⟨vs, H2, I2, r, q2⟩ => ?_) hpl hst
  refine thn (hkw.run pos pins s2 σ H2 _ I2 q2) fun ws s3 ⟨zs, H3, I3, rz, l1, l2, q3⟩ => ⟨I3.kIn, ?_⟩
  rw [hks]
  exact run_fnN (us := .ref a :: us) (vs := .ref a :: vs) F (hr.mono hk) hb hx I3 (.cons rfl r) rz l1 l2 q3
end L3
end

section
/-! Law-independent layer 15: the Booleans of the own exceptions with a name, and of part, at, why -/
namespace L3
open PySem PySem.Spec PyProof.Rows L2 He PySem.W
def supNB (F : Str) (K : Frag) (x : Str) : Bool := clsB K (ga K x) && (decide (findIn K (.ref (ga K x)) "__setattr__" = some (some (.builtin "object.__setattr__"))) && (decide (findIn K (.ref (ga K x)) "name" = some none) && (keepIn K (.ref (ga K x)) &&
  (decide (subIn K (.ref (ga K x)) (.type "BaseException") = some true) && (decide (subIn K (.ref (ga K x)) (.type "ValueError") = some true) && (decide (mroIn K (ga K x) (.ref (ga K x)) = some true) && (decide (typeIn K (.ref (ga K x)) = some (.type "type")) &&
  (decide (ks_superIn K (ga K x) (ga K x) "__init__" = some (some (.builtin "ValueError.__init__"))) && (decide (nsIn K cStatics "thirdparty.any" = some none) && iniB F K (ga K x))))))))))
theorem supNB_ok {P : Program} {K : Frag} {mg : Str → Option Value} {x pre : Str} {p1 p2 a1 a2 a3 a4 a5 a6 a7 a8 a9 a10 a11 a12 a13 : Pos} {qual : Str} (gC : mg x = some (.ref (ga K x))) (gs : mg "super" = none) (top : (P.main.scope.names.lookup ("super" : Str)).isSome = false)
    (c : supNB P.main.file K x = true) (e : fnS K (ma K (ga K x) "__init__") = (⟨fun K => ma K (ga K x) "__init__", "__init__", qual, PySem.SupN.supAn p1 p2, PySem.SupN.supBn pre a1 a2 a3 a4 a5 a6 a7 a8 a9 a10 a11 a12 a13, PySem.SupN.supSn, ["__class__"]⟩ : Sd).val)
    (ln : PySem.SupN.SupLine pre a1 a2 a3 a4 a5 a6 a7 a8) : PySem.SupN.SupTxt P K mg (ga K x) x pre := by
  unfold supNB at c
  obtain ⟨c1, c⟩ := ba c
  obtain ⟨c2, c⟩ := ba c
  obtain ⟨c3, c⟩ := ba c
  obtain ⟨c4, c⟩ := ba c
  obtain ⟨c5, c⟩ := ba c
  obtain ⟨c6, c⟩ := ba c
  obtain ⟨c7, c⟩ := ba c
  obtain ⟨c8, c⟩ := ba c
  obtain ⟨c9, c⟩ := ba c
  obtain ⟨c10, c⟩ := ba c
  refine ⟨gC, clsB_ok c1, of_decide_eq_true c2, of_decide_eq_true c3, c4, of_decide_eq_true c5, of_decide_eq_true c6, of_decide_eq_true c7, of_decide_eq_true c8, of_decide_eq_true c9, of_decide_eq_true c10, gs, top, ?_⟩
  unfold iniB at c
  obtain ⟨d1, c⟩ := ba c
  obtain ⟨d2, c⟩ := ba c
  obtain ⟨oc, od, osl, cl, dV, kV, doc, pm, an, cdv, ct, hlk, hcl⟩ := fnS_at e
  rw [hlk] at c
  dsimp only [PySem.W.fnX] at c
  obtain ⟨d3, w1⟩ := ba c
  obtain ⟨d4, w2⟩ := ba w1
  obtain ⟨d5, w3⟩ := ba w2
  have e3 : dV = .none := of_decide_eq_true d3
  have e4 : kV = .none := of_decide_eq_true d4
  subst e3 e4
  obtain ⟨cc, rfl⟩ : ∃ cc, cl = [(("__class__" : Str), cc)] := by
    cases cl with
    | nil => cases hcl
    | cons q r =>
      cases r with
      | nil =>
        obtain ⟨n, cc⟩ := q
        have : n = ("__class__" : Str) := by
          have h := congrArg List.head? hcl
          exact Option.some.inj h
        exact ⟨cc, by rw [this]⟩
      | cons _ _ => cases congrArg List.length hcl
  dsimp only at d5
  obtain ⟨_, d6⟩ := ba d5
  clear c w1 w2 d5
  split at d6
  · rename_i clc cld v csl hcell
    have ev : v = .ref (ga K x) := of_decide_eq_true d6
    subst ev
    split at w3
    · rename_i cda
      obtain ⟨c1', w4⟩ := ba w3
      clear w3
      split at w4
      · rename_i ccl cdd vs ccs hcode
        split at w4
        · rename_i file tf hvs
          exact ⟨ma K (ga K x) "__init__", cc, cda, oc, od, doc, pm, an, ct, osl, p1, p2, a1, a2, a3, a4, a5, a6, a7, a8, a9, a10, a11, a12, a13, vs, file, tf, ccl, cdd, ccs, clc, cld, csl, qual, of_decide_eq_true d1, of_decide_eq_true d2, hlk, c1', hcode, hvs, w4, hcell, ln⟩
        · cases w4
      · cases w4
    · cases w3
  · cases d6
end L3
end

section
/-! Law-independent layer 16: enumerate(x, start = k) over lists and tuples -/
namespace L3
open PySem PySem.Spec PyProof.Rows L2
theorem callWith_tyK {M : Model} {A : Around} {E : Value → Shared → Prop} {s : Shared} {env : Env} {pos : Pos} {T : String} {e : Expr} {rest : List Expr} {kws : List Keyword} {Q : Value → Shared → Prop}
    (h : wpAny M A (spliced (backTo pos (starEach (e :: rest) env))) (fun vs s₁ => wpAny M A (evalAll ((backToKw pos (keywordEach kws env)).map (·.2)))
      (fun kvs s₂ => wpAny M A (call (.type T) vs (((backToKw pos (keywordEach kws env)).filterMap (·.1)).zip kvs)) Q E s₂) E s₁) E s)
    (he : backTo pos (starEach (e :: rest) env) = (false, eval e env) :: backTo pos (starEach rest env) := by rfl)
    (hplain : (backTo pos (starEach (e :: rest) env)).any (·.1) = false := by rfl)
    (hall : (backToKw pos (keywordEach kws env)).all (·.1.isSome) = true := by rfl)
    (hkw : (backToKw pos (keywordEach kws env)).any (·.1.isNone) = false := by rfl) :
    wpAny M A (callWith pos (.type T) [] (backTo pos (starEach (e :: rest) env)) (backToKw pos (keywordEach kws env))) Q E s := by
  have ea : wpAny M A (evalArgs (.type T) true (backTo pos (starEach (e :: rest) env)) (backToKw pos (keywordEach kws env))) (fun a s₁ => wpAny M A (call (.type T) ([] ++ a.pos) a.kw) Q E s₁) E s := by
    rw [he] at h ⊢
    exact evalArgs_kwB hall h
  unfold callWith
  refine wpAny_bind (wpAny_holding (wpAny_mono ea (fun a s₁ h₁ => wpAny_bind (wpAny_standAt ?_)) fun _ _ x => x))
  simp only [hplain, hkw, Bool.or_false]
  refine wpAny_bind (wpAny_pure ?_)
  exact wpAny_bind (wpAny_mono h₁ (fun r s₂ hr => wpAny_bind (wpAny_holding (wpAny_point (wpAny_pure hr)))) fun _ _ x => x)
/-- the list at a, each item in a new pair with k, k + 1, .. -/
def IteS (K : PySem.W.Frag) (k : Int) (a : Addr) : It :=
  ⟨fun i H => ∃ (xs : List V) (x : V), SqL K H a xs ∧ xs[i]? = some x, fun i H v H' => ∃ T x, v = .ref T ∧ H T = none ∧ H' = upd H T (.tup [.int (k + (i : Nat)), x]) ∧ ∀ xs, SqL K H a xs → xs[i]? = some x, fun i H => ∃ xs : List V, SqL K H a xs ∧ xs.length = i⟩
def IteST (K : PySem.W.Frag) (k : Int) (a : Addr) : It :=
  ⟨fun i H => ∃ (xs : List V) (x : V), SqT K H a xs ∧ xs[i]? = some x, fun i H v H' => ∃ T x, v = .ref T ∧ H T = none ∧ H' = upd H T (.tup [.int (k + (i : Nat)), x]) ∧ ∀ xs, SqT K H a xs → xs[i]? = some x, fun i H => ∃ xs : List V, SqT K H a xs ∧ xs.length = i⟩
theorem turn_enumS {P : Program} {w : World} {K : PySem.W.Frag} {elts : List Expr} {kk : Nat} {tpos : Pos} (k : Int) (a e it : Addr) :
    Turn P w K (.Tuple elts kk tpos) (IteS K k a) [e, it] e (fun i h => (∃ old, IsEnum h e it (k + (i : Nat)) old) ∧ h.IsListIter it a i ∧ e ≠ it) where
  mem := by simp
  obj := fun i h st b hb => by
    obtain ⟨⟨old, he⟩, ⟨o, ho, hc, hd⟩, _⟩ := st
    have e' : b = e ∨ b = it := by simpa using hb
    rcases e' with z | z
    · rw [z]; exact ⟨_, he, fun v q => nomatch q⟩
    · rw [z]; exact ⟨o, ho, fun v q => by rw [hd] at q; cases q⟩
  keep := fun i h h' st k => let ⟨⟨old, he⟩, hi, hne⟩ := st; ⟨⟨old, k e (by simp) _ he⟩, hi.at fun o q => k it (by simp) o q, hne⟩
  item := by
    intro X hP hw hK hc i pins s σ H E I hf st hg
    subst hP hw hK
    obtain ⟨⟨old, he⟩, hit, hne⟩ := st
    obtain ⟨xs, x, hq, hx⟩ := hg
    obtain ⟨its, rv, p, hz⟩ := I.list hq
    have hT0 : s.heap.IsList a its.toArray := p.isList
    obtain ⟨u, hu, ru⟩ := rv.get hx
    have hel : e < s.heap.objs.size := Heap.lt_size he
    have hil : it < s.heap.objs.size := by obtain ⟨_, q, _⟩ := hit; exact Heap.lt_size q
    have hai : a ≠ it := fun z => by
      obtain ⟨o, ho, hc1, _⟩ := id hT0
      obtain ⟨o2, ho2, hc2, _⟩ := id hit
      rw [z] at ho
      obtain rfl := Option.some.inj (ho.symm.trans ho2)
      rw [hc1] at hc2
      simp at hc2
    have hea : e ≠ a := fun z => by
      obtain ⟨o, ho, hc1, _⟩ := id hT0
      have he' := he
      rw [z] at he'
      obtain rfl := Option.some.inj (ho.symm.trans he')
      simp at hc1
    have hlen := rv.length
    have hxl : i < xs.length := (List.getElem?_eq_some_iff.mp hx).1
    refine wpAny_pyNext_enum_itemC (Draws.list (show X.A.in1.handled = none from I.ok.hd hc) it a hai its.toArray) he ⟨hit, hT0⟩ (by simp; omega) hne (by simp [hne, hea]) fun y h' tk hy ho hit' hT hsz hk => ?_
    have ey : y = u := by
      simp at hy
      rw [hu] at hy
      exact (Option.some.inj hy).symm
    subst ey
    refine ⟨_, rfl, wpAny_letOwnedTupleGo_enum (s := { s with heap := h', toks := tk + 1 }) ho fun h'' he' sb => ?_⟩
    have hT2 : h''.get? s.heap.objs.size = some { cls := .type "tuple", data := .seq #[.int (k + (i : Nat)) tk, y] } := (sb.2 _ (Nat.ne_of_gt hel)).trans hT
    have new : ObjOk X.prog X.w (upd H s.heap.objs.size (.tup [.int (k + (i : Nat)), x])) h'' s.heap.objs.size (.tup [.int (k + (i : Nat)), x]) :=
      ⟨by show 2 ≤ sizeLine; decide, [.int (k + (i : Nat)) tk, y], .cons ⟨_, rfl⟩ (.cons ru .nil), ⟨_, hT2, rfl, _, rfl⟩⟩
    have I1 : Inv X pins σ (upd H s.heap.objs.size (.tup [.int (k + (i : Nat)), x])) { s with heap := h'', toks := tk + 1 } :=
      I.turnedNew (ch := [e, it]) (fun b ob hb q => (sb.2 b (fun z => hb (by simp [z]))).trans (hk b ob (fun z => hb (by simp [z])) (fun z => hb (by simp [z])) q)) hf (Nat.le_refl _) new
    refine ⟨.ref s.heap.objs.size, _, I1, rfl, ⟨_, x, rfl, I.hok.fresh (Nat.le_refl _), rfl, fun ys hy => by rw [I.list_inj hy hq]; exact hx⟩, ⟨⟨y, ?_⟩, hit'.1.at fun o q => (sb.2 it (Ne.symm hne)).trans q, hne⟩, fun b hb => ?_⟩
    · have e1 : k + ((i + 1 : Nat) : Int) = (k + (i : Int)) + 1 := by omega
      rw [e1]; exact he'
    · have hb' : b < s.heap.objs.size := by
        have e' : b = e ∨ b = it := by simpa using hb
        rcases e' with z | z
        · rw [z]; exact hel
        · rw [z]; exact hil
      rw [upd_ne (Nat.ne_of_lt hb')]
      exact (hf b hb).1
  done := by
    intro X hP hw hK hc i pins s σ H E I hf st hg
    subst hP hw hK
    obtain ⟨⟨old, he⟩, hit, hne⟩ := st
    obtain ⟨xs, hq, hx⟩ := hg
    obtain ⟨its, rv, p, hz⟩ := I.list hq
    have hT0 : s.heap.IsList a its.toArray := p.isList
    obtain ⟨f0, f1, f2, f3, f4, f5⟩ := hf it (by simp)
    have hai : a ≠ it := fun z => by
      obtain ⟨o, ho, hc1, _⟩ := id hT0
      obtain ⟨o2, ho2, hc2, _⟩ := id hit
      rw [z] at ho
      obtain rfl := Option.some.inj (ho.symm.trans ho2)
      rw [hc1] at hc2
      simp at hc2
    have hl := rv.length
    exact wpAny_pyNext_enum_endD (Draws.list (show X.A.in1.handled = none from I.ok.hd hc) it a hai its.toArray) he ⟨by simp [← hl, hx]; exact hit, hT0⟩ fun h' eb => ⟨rfl, I.turned (t' := s.toks) (fun b o hb q => eb b o hb q) f0 f1 f3 f4 f5⟩
  self := fun A i s Q E st h => let ⟨⟨_, he⟩, _⟩ := st; wpAny_pyIter_enum he h
theorem turn_enumST {P : Program} {w : World} {K : PySem.W.Frag} {elts : List Expr} {kk : Nat} {tpos : Pos} (k : Int) (a e it : Addr) :
    Turn P w K (.Tuple elts kk tpos) (IteST K k a) [e, it] e (fun i h => (∃ old, IsEnum h e it (k + (i : Nat)) old) ∧ h.IsTupleIter it a i ∧ e ≠ it) where
  mem := by simp
  obj := fun i h st b hb => by
    obtain ⟨⟨old, he⟩, ⟨o, ho, hc, hd⟩, _⟩ := st
    have e' : b = e ∨ b = it := by simpa using hb
    rcases e' with z | z
    · rw [z]; exact ⟨_, he, fun v q => nomatch q⟩
    · rw [z]; exact ⟨o, ho, fun v q => by rw [hd] at q; cases q⟩
  keep := fun i h h' st k => let ⟨⟨old, he⟩, hi, hne⟩ := st; ⟨⟨old, k e (by simp) _ he⟩, hi.at fun o q => k it (by simp) o q, hne⟩
  item := by
    intro X hP hw hK hc i pins s σ H E I hf st hg
    subst hP hw hK
    obtain ⟨⟨old, he⟩, hit, hne⟩ := st
    obtain ⟨xs, x, hq, hx⟩ := hg
    obtain ⟨its, rv, p, hz⟩ := I.tuple hq
    have hT0 : s.heap.IsTuple a its.toArray := p
    obtain ⟨u, hu, ru⟩ := rv.get hx
    have hel : e < s.heap.objs.size := Heap.lt_size he
    have hil : it < s.heap.objs.size := by obtain ⟨_, q, _⟩ := hit; exact Heap.lt_size q
    have hai : a ≠ it := fun z => by
      obtain ⟨o, ho, hc1, _⟩ := id hT0
      obtain ⟨o2, ho2, hc2, _⟩ := id hit
      rw [z] at ho
      obtain rfl := Option.some.inj (ho.symm.trans ho2)
      rw [hc1] at hc2
      simp at hc2
    have hea : e ≠ a := fun z => by
      obtain ⟨o, ho, hc1, _⟩ := id hT0
      have he' := he
      rw [z] at he'
      obtain rfl := Option.some.inj (ho.symm.trans he')
      simp at hc1
    have hlen := rv.length
    have hxl : i < xs.length := (List.getElem?_eq_some_iff.mp hx).1
    refine wpAny_pyNext_enum_itemC (Draws.tuple (show X.A.in1.handled = none from I.ok.hd hc) it a hai its.toArray) he ⟨hit, hT0⟩ (by simp; omega) hne (by simp [hne, hea]) fun y h' tk hy ho hit' hT hsz hk => ?_
    have ey : y = u := by
      simp at hy
      rw [hu] at hy
      exact (Option.some.inj hy).symm
    subst ey
    refine ⟨_, rfl, wpAny_letOwnedTupleGo_enum (s := { s with heap := h', toks := tk + 1 }) ho fun h'' he' sb => ?_⟩
    have hT2 : h''.get? s.heap.objs.size = some { cls := .type "tuple", data := .seq #[.int (k + (i : Nat)) tk, y] } := (sb.2 _ (Nat.ne_of_gt hel)).trans hT
    have new : ObjOk X.prog X.w (upd H s.heap.objs.size (.tup [.int (k + (i : Nat)), x])) h'' s.heap.objs.size (.tup [.int (k + (i : Nat)), x]) :=
      ⟨by show 2 ≤ sizeLine; decide, [.int (k + (i : Nat)) tk, y], .cons ⟨_, rfl⟩ (.cons ru .nil), ⟨_, hT2, rfl, _, rfl⟩⟩
    have I1 : Inv X pins σ (upd H s.heap.objs.size (.tup [.int (k + (i : Nat)), x])) { s with heap := h'', toks := tk + 1 } :=
      I.turnedNew (ch := [e, it]) (fun b ob hb q => (sb.2 b (fun z => hb (by simp [z]))).trans (hk b ob (fun z => hb (by simp [z])) (fun z => hb (by simp [z])) q)) hf (Nat.le_refl _) new
    refine ⟨.ref s.heap.objs.size, _, I1, rfl, ⟨_, x, rfl, I.hok.fresh (Nat.le_refl _), rfl, fun ys hy => by rw [I.tuple_inj hy hq]; exact hx⟩, ⟨⟨y, ?_⟩, hit'.1.at fun o q => (sb.2 it (Ne.symm hne)).trans q, hne⟩, fun b hb => ?_⟩
    · have e1 : k + ((i + 1 : Nat) : Int) = (k + (i : Int)) + 1 := by omega
      rw [e1]; exact he'
    · have hb' : b < s.heap.objs.size := by
        have e' : b = e ∨ b = it := by simpa using hb
        rcases e' with z | z
        · rw [z]; exact hel
        · rw [z]; exact hil
      rw [upd_ne (Nat.ne_of_lt hb')]
      exact (hf b hb).1
  done := by
    intro X hP hw hK hc i pins s σ H E I hf st hg
    subst hP hw hK
    obtain ⟨⟨old, he⟩, hit, hne⟩ := st
    obtain ⟨xs, hq, hx⟩ := hg
    obtain ⟨its, rv, p, hz⟩ := I.tuple hq
    have hT0 : s.heap.IsTuple a its.toArray := p
    obtain ⟨f0, f1, f2, f3, f4, f5⟩ := hf it (by simp)
    have hai : a ≠ it := fun z => by
      obtain ⟨o, ho, hc1, _⟩ := id hT0
      obtain ⟨o2, ho2, hc2, _⟩ := id hit
      rw [z] at ho
      obtain rfl := Option.some.inj (ho.symm.trans ho2)
      rw [hc1] at hc2
      simp at hc2
    have hl := rv.length
    exact wpAny_pyNext_enum_endD (Draws.tuple (show X.A.in1.handled = none from I.ok.hd hc) it a hai its.toArray) he ⟨by simp [← hl, hx]; exact hit, hT0⟩ fun h' eb => ⟨rfl, I.turned (t' := s.toks) (fun b o hb q => eb b o hb q) f0 f1 f3 f4 f5⟩
  self := fun A i s Q E st h => let ⟨⟨_, he⟩, _⟩ := st; wpAny_pyIter_enum he h
def iEnumS (K : PySem.W.Frag) (ta tk : TA) : TI := fun σ H R => ta σ H fun vs H0 => tk σ H0 fun zs H1 => ∃ a xs k, vs = [.ref a] ∧ zs = [.int k] ∧ 0 ≤ k ∧ k < 1000000 ∧ ((SqL K H1 a xs ∧ R (IteS K k a) H1) ∨ (SqT K H1 a xs ∧ R (IteST K k a) H1))
theorem pi_enumS {X : Cx} {e e2 : Expr} {ta tk : TA} {p pos tpos kp : Pos} {elts : List Expr} {kk : Nat} (hg : Gl X "enumerate") (hm : X.mg "enumerate" = none) (ha : PA X [e] ta) (hk : PK X [⟨some "start", e2, kp⟩] tk) (hs : backTo pos (starEach [e] X.env) = (false, eval e X.env) :: backTo pos (starEach [] X.env) := by rfl) :
    PI X (.Tuple elts kk tpos) (.Call (.Name "enumerate" p) [e] [⟨some "start", e2, kp⟩] pos) (iEnumS X.K ta tk) := by
  refine ⟨fun pins s σ H R I h => ?_⟩
  refine wpAny_Call_Name_kw (ld_blt I hg hm boot_enumerate ?_)
  refine callWith_tyK (thn (ha.run pos pins s σ H _ I h) fun us s0 ⟨vs, H0, I0, r0, q0⟩ => thn (hk.run pos pins s0 σ H0 _ I0 q0) fun ws s1 ⟨zs, H1, I1, r1, q1⟩ => ?_) hs (by rw [hs]; rfl)
  obtain ⟨a, xs, k, ex, ez, k0, k1, q⟩ := q1
  subst ex ez
  cases r0 with
  | cons r rr =>
  cases rr
  cases r
  cases r1 with
  | cons r rr =>
  cases rr
  obtain ⟨t, rfl⟩ := r
  show wpAny _ _ (call (.type "enumerate") [.ref a] [(Str.ofString "start", .int k t)]) _ _ _
  have fp : ∀ b, b = s1.heap.objs.size + 1 ∨ b = s1.heap.objs.size → s1.heap.objs.size ≤ b := fun b e' => by
    rcases e' with z | z
    · rw [z]; exact Nat.le_add_right _ _
    · rw [z]; exact Nat.le_refl _
  have kz : k + ((0 : Nat) : Int) = k := by omega
  rcases q with ⟨hq, q⟩ | ⟨hq, q⟩
  · obtain ⟨its, rv, p', hz⟩ := I1.list hq
    refine enum_begins_start (begins_list a its.toArray) p'.isList (by omega) (by omega) fun h' he hit hsz hk => wpAny_pyIter_enum he ?_
    have I2 : Inv X pins σ H1 { s1 with heap := h' } := I1.kept (t' := s1.toks) hk
    exact ⟨s1.heap.objs.size + 1, [s1.heap.objs.size + 1, s1.heap.objs.size], _, _, H1, rfl, I2, turn_enumS k a (s1.heap.objs.size + 1) s1.heap.objs.size, ⟨⟨.none, by rw [kz]; exact he⟩, ⟨_, hit, rfl, rfl⟩, Nat.succ_ne_self _⟩, fun b hb => I1.fpOk (fp b (by simpa using hb)) (I1.hok.fresh (fp b (by simpa using hb))), q⟩
  · obtain ⟨its, rv, p', hz⟩ := I1.tuple hq
    refine enum_begins_start (begins_tuple a its.toArray) (show s1.heap.IsTuple a its.toArray from p') (by omega) (by omega) fun h' he hit hsz hk => wpAny_pyIter_enum he ?_
    have I2 : Inv X pins σ H1 { s1 with heap := h' } := I1.kept (t' := s1.toks) hk
    exact ⟨s1.heap.objs.size + 1, [s1.heap.objs.size + 1, s1.heap.objs.size], _, _, H1, rfl, I2, turn_enumST k a (s1.heap.objs.size + 1) s1.heap.objs.size, ⟨⟨.none, by rw [kz]; exact he⟩, ⟨_, hit, rfl, rfl⟩, Nat.succ_ne_self _⟩, fun b hb => I1.fpOk (fp b (by simpa using hb)) (I1.hok.fresh (fp b (by simpa using hb))), q⟩
theorem walk_enumS {K : PySem.W.Frag} {k : Int} {a : Addr} {xs : List V} : Walk (IteS K k a) xs.length (fun H => SqL K H a xs) (YPair (fun i => some (.int (k + (i : Nat)))) (fun i => xs[i]?)) := by
  refine ⟨fun i _ hi q => ⟨xs, xs[i], q, by simp [hi]⟩, fun _ q => ⟨xs, q, rfl⟩, fun i H v H' _ q y => ?_⟩
  obtain ⟨T, x, h1, h2, h3, h4⟩ := y
  exact ⟨T, .int (k + (i : Nat)), x, h1, h2, h3, rfl, h4 xs q⟩
theorem walk_enumST {K : PySem.W.Frag} {k : Int} {a : Addr} {xs : List V} : Walk (IteST K k a) xs.length (fun H => SqT K H a xs) (YPair (fun i => some (.int (k + (i : Nat)))) (fun i => xs[i]?)) := by
  refine ⟨fun i _ hi q => ⟨xs, xs[i], q, by simp [hi]⟩, fun _ q => ⟨xs, q, rfl⟩, fun i H v H' _ q y => ?_⟩
  obtain ⟨T, x, h1, h2, h3, h4⟩ := y
  exact ⟨T, .int (k + (i : Nat)), x, h1, h2, h3, rfl, h4 xs q⟩
/-! ### a list or a tuple, whichever it is -/
def iSeqA (K : PySem.W.Frag) (te : TE) : TI := fun σ H R => te σ H fun x H1 => ∃ a xs, x = .ref a ∧ ((SqL K H1 a xs ∧ R (Itl K a) H1) ∨ (SqT K H1 a xs ∧ R (Itt K a) H1))
theorem pi_seqA {X : Cx} {tg l : Expr} {tl : TE} (hl : PE X l tl) : PI X tg l (iSeqA X.K tl) := by
  refine ⟨fun pins s σ H R I h => ?_⟩
  refine thn (hl.run pins s σ H _ I h) fun v s1 ⟨x, H1, I1, r1, q1⟩ => ?_
  obtain ⟨a, xs, e, q⟩ := q1
  subst e
  cases r1
  rcases q with ⟨hq, q⟩ | ⟨hq, q⟩
  · obtain ⟨its, rv, p, hz⟩ := I1.list hq
    refine wpAny_pyIter_list p.isList ?_
    refine ⟨s1.heap.objs.size, [s1.heap.objs.size], _, _, H1, rfl, I1.kept (t' := s1.toks) fun b o e => Heap.get?_push_of_some _ e, turn_list a _, ⟨_, Heap.get?_push_size _ rfl, rfl, rfl⟩, fun b hb => ?_, q⟩
    have e : b = s1.heap.objs.size := by simpa using hb
    subst e
    exact I1.fpOk (Nat.le_refl _) (I1.hok.fresh (Nat.le_refl _))
  · obtain ⟨its, rv, p, hz⟩ := I1.tuple hq
    refine wpAny_pyIter_tuple (show s1.heap.IsTuple a its.toArray from p) ?_
    refine ⟨s1.heap.objs.size, [s1.heap.objs.size], _, _, H1, rfl, I1.kept (t' := s1.toks) fun b o e => Heap.get?_push_of_some _ e, turn_tuple a _, ⟨_, Heap.get?_push_size _ rfl, rfl, rfl⟩, fun b hb => ?_, q⟩
    have e : b = s1.heap.objs.size := by simpa using hb
    subst e
    exact I1.fpOk (Nat.le_refl _) (I1.hok.fresh (Nat.le_refl _))
section
variable {K : PySem.W.Frag} {H Hb : Hp} {σ σ2 : L2.St} {p : Addr} {xs : List V} {D : Ends} {g : TG} {tb : TS} {tt : TT} {te : TE} {vs : List Nat} {Q : VK}
theorem k_seqA {tl : TE} {R : It → Hp → Prop} (h : tl σ H fun x H1 => ∃ a xs, x = .ref a ∧ ((SqL K H1 a xs ∧ R (Itl K a) H1) ∨ (SqT K H1 a xs ∧ R (Itt K a) H1))) : iSeqA K tl σ H R := h
theorem k_seqF (h : SqL K Hb p xs ∨ SqT K Hb p xs) (eb : Ex Hb H) (q : ∀ J G, (∀ H', Ex Hb H' → G H') → Walk J xs.length G (YAt xs) → ForK J g tb D σ2 H) :
    ∃ (a : Addr) (zs : List V), V.ref p = .ref a ∧ ((SqL K H a zs ∧ ForK (Itl K a) g tb D σ2 H) ∨ (SqT K H a zs ∧ ForK (Itt K a) g tb D σ2 H)) := by
  rcases h with h | h
  · exact ⟨p, xs, rfl, .inl ⟨eb.sqL h, q _ _ (fun H' e => e.sqL h) walk_list⟩⟩
  · exact ⟨p, xs, rfl, .inr ⟨eb.sqT h, q _ _ (fun H' e => e.sqT h) walk_tup⟩⟩
theorem k_seqL (h : SqL K Hb p xs ∨ SqT K Hb p xs) (eb : Ex Hb H) (q : ∀ J G, (∀ H', Ex Hb H' → G H') → Walk J xs.length G (YAt xs) → LcK J g tt te vs σ2 Q H) :
    ∃ (a : Addr) (zs : List V), V.ref p = .ref a ∧ ((SqL K H a zs ∧ LcK (Itl K a) g tt te vs σ2 Q H) ∨ (SqT K H a zs ∧ LcK (Itt K a) g tt te vs σ2 Q H)) := by
  rcases h with h | h
  · exact ⟨p, xs, rfl, .inl ⟨eb.sqL h, q _ _ (fun H' e => e.sqL h) walk_list⟩⟩
  · exact ⟨p, xs, rfl, .inr ⟨eb.sqT h, q _ _ (fun H' e => e.sqT h) walk_tup⟩⟩
theorem k_enumS {ta tk : TA} {R : It → Hp → Prop} (h : ta σ H fun vs H0 => tk σ H0 fun zs H1 => ∃ a xs k, vs = [.ref a] ∧ zs = [.int k] ∧ 0 ≤ k ∧ k < 1000000 ∧ ((SqL K H1 a xs ∧ R (IteS K k a) H1) ∨ (SqT K H1 a xs ∧ R (IteST K k a) H1))) : iEnumS K ta tk σ H R := h
theorem k_enumSL {k : Int} (h : SqL K Hb p xs ∨ SqT K Hb p xs) (eb : Ex Hb H) (h0 : 0 ≤ k) (h1 : k < 1000000) (q : ∀ J G, (∀ H', Ex Hb H' → G H') → Walk J xs.length G (YPair (fun i => some (.int (k + (i : Nat)))) (fun i => xs[i]?)) → LcK J g tt te vs σ2 Q H) :
    ∃ (a : Addr) (zs : List V) (k' : Int), [V.ref p] = [.ref a] ∧ [V.int k] = [.int k'] ∧ 0 ≤ k' ∧ k' < 1000000 ∧ ((SqL K H a zs ∧ LcK (IteS K k' a) g tt te vs σ2 Q H) ∨ (SqT K H a zs ∧ LcK (IteST K k' a) g tt te vs σ2 Q H)) := by
  rcases h with h | h
  · exact ⟨p, xs, k, rfl, rfl, h0, h1, .inl ⟨eb.sqL h, q _ _ (fun H' e => e.sqL h) walk_enumS⟩⟩
  · exact ⟨p, xs, k, rfl, rfl, h0, h1, .inr ⟨eb.sqT h, q _ _ (fun H' e => e.sqT h) walk_enumST⟩⟩
end
end L3
end

section
/-! t.index(z), texts -/
open PySem PySem.Spec PyProof.Rows L2 PySem.W
namespace L3
theorem strsAre_of : ∀ {zs : List Str} {its : List Value}, Vals (zs.map V.str) its → PyProof.Rows.StrsAre its zs
  | [], _, .nil => .nil
  | _ :: _, _, .cons ⟨_, rfl⟩ r => .cons _ _ (strsAre_of r)
section
variable {X : Cx}
def rTIndex (K : PySem.W.Frag) : V → List V → Hp → VK → Prop := fun x xs H Q => ∃ (a : Addr) (zs : List Str) (z : Str), x = V.ref a ∧ xs = [.str z] ∧ SqT K H a (zs.map V.str) ∧ z ∈ zs ∧ Q (.int (zs.idxOf z : Nat)) H
/-- a tuple that is new: its object is known to have no dict -/
def TupZ (H : Hp) (a : Addr) (xs : List V) : Prop := ∃ od : Obj, od.dict = none ∧ H a = some (.frz od (.tup xs))
def rTupZ (K : PySem.W.Frag) : List V → Hp → VK → Prop := fun xs H Q => ∃ p ys, xs = [V.ref p] ∧ SqL K H p ys ∧ ∀ (l : Addr) (od : Obj), H l = none → od.dict = none → Q (.ref l) (upd H l (.frz od (.tup ys)))
theorem cr_tupZ : CallR X (.type "tuple") (rTupZ X.K) := by
  intro pins s σ H xs us Q I r h
  obtain ⟨p, ys, rfl, hq, q⟩ := h
  obtain ⟨u, rfl, rx⟩ := vals1 r
  cases rx
  obtain ⟨its, r', pl, hz⟩ := I.list hq
  have hlen := r'.length
  refine call_tuple_list pl.isList (fun h' kp => ?_) (by simp only [List.size_toArray] <;> omega)
  have I1 : Inv X pins σ H { s with heap := h' } := I.kept (t' := s.toks) kp
  have I2 : Inv X pins σ (upd H h'.objs.size (.frz { cls := .type "tuple", data := .seq its.toArray } (.tup ys))) { s with heap := h'.push { cls := .type "tuple", data := .seq its.toArray } } :=
    I1.laid (t' := s.toks) (fun b o e => Heap.get?_push_of_some _ e) (Nat.le_refl _) (show ObjOk X.prog X.w _ _ _ (.frz _ (.tup ys)) from ⟨Heap.get?_push_size _ rfl, hz, its, r', IsTup.new _ _⟩)
  exact ⟨.ref h'.objs.size, _, I2, rfl, q _ _ (I1.hok.fresh (Nat.le_refl _)) rfl⟩
def tTix (to : TE) (t : TA) : TE := fun σ H Q => to σ H fun x H1 => ∃ a xs, x = V.ref a ∧ TupZ H1 a xs ∧ t σ H1 fun vs H2 => ∃ (zs : List Str) (z : Str), xs = zs.map V.str ∧ vs = [.str z] ∧ H2 a = H1 a ∧ z ∈ zs ∧ Q (.int (zs.idxOf z : Nat)) H2
theorem mt_tindex : MtR X "tuple.index" (rTIndex X.K) := by
  intro pins s σ H x xs v us Q I rx rxs h
  obtain ⟨a, zs, z, rfl, rfl, hs, hm, q⟩ := h
  cases rx
  cases rxs with
  | cons ry rt =>
    cases rt
    obtain ⟨t, rfl⟩ := ry
    obtain ⟨its, rv, pl, hz⟩ := I.tuple hs
    exact SeqAt.tuple_index_strs pl (strsAre_of rv) hm ⟨.int _, H, I.tok _, ⟨_, rfl⟩, q⟩
theorem pe_tix {o e : Expr} {es : List Expr} {to : TE} {t : TA} {apos cpos : Pos} (ho : PE X o to) (ha : PA X (e :: es) t)
    (hbase : attributeBase o "index" X.env (eval o X.env) = eval o X.env := by rfl)
    (hfew : ((backTo cpos (starEach (e :: es) X.env)).all (fun x => !x.1) && (backToKw cpos (keywordEach [] X.env)).all (fun x => x.1.isSome)
      && decide ((e :: es).length + ([] : List Keyword).length + (if ([] : List Keyword).isEmpty then 0 else 1) < 30)) = true := by rfl)
    (hline : (apos.endLine == cpos.line) = true := by rfl) (hs : starEach (e :: es) X.env = (false, eval e X.env) :: starEach es X.env := by rfl) (hplain : (backTo cpos (starEach es X.env)).any (·.1) = false := by rfl) :
    PE X (.Call (.Attribute o "index" apos) (e :: es) [] cpos) (tTix to t) := by
  refine ⟨fun pins s σ H Q I h => ?_⟩
  refine wpAny_Call_method_late hbase hfew hline rfl (thn (ho.run pins s σ H _ I h) fun v s1 ⟨x, H1, I1, r1, a, xs, ex, ⟨od, hod, hfr⟩, q1⟩ => ?_)
  subst ex
  cases r1
  obtain ⟨g, hz0, its, rv, ob, h1, h2, h3⟩ := (show ObjOk X.prog X.w H1 s1.heap a (.frz od (.tup xs)) from I1.hok a _ hfr)
  refine ⟨"tuple", "tuple.index", PySem.F.plainAttrs_tuple, PySem.F.slot_tuple_index, PySem.F.type_tuple_index, ⟨ob, h1, h2⟩, fun b e => by cases e; exact ⟨od, g, hod⟩, ?_⟩
  have hA := ha.run cpos pins s1 σ H1 _ I1 q1
  rw [hs] at hA ⊢
  refine Calls.callWith_builtin (by show (false || (backTo cpos (starEach es X.env)).any (·.1)) = false; rw [hplain] <;> rfl) (Calls.evalArgs_plain ?_)
  exact thn hA fun us s2 ⟨vs, H2, I2, r2, zs, z, ez, ev, eH, hm, q2⟩ => mt_tindex pins s2 σ H2 (.ref a) vs (.ref a) us Q I2 rfl r2 ⟨a, zs, z, rfl, ev, .inl (.inr ⟨od, by rw [eH, hfr, ez]⟩), hm, q2⟩
end
section
variable {K : PySem.W.Frag} {σ : L2.St} {H : Hp} {Q : VK} {p : Addr}
theorem k_tix {to : TE} {t : TA} (h : to σ H fun x H1 => ∃ a xs, x = V.ref a ∧ TupZ H1 a xs ∧ t σ H1 fun vs H2 => ∃ (zs : List Str) (z : Str), xs = zs.map V.str ∧ vs = [.str z] ∧ H2 a = H1 a ∧ z ∈ zs ∧ Q (.int (zs.idxOf z : Nat)) H2) : tTix to t σ H Q := h
theorem TupZ.sqT {K : PySem.W.Frag} {xs : List V} (h : TupZ H p xs) : SqT K H p xs := let ⟨od, _, h⟩ := h; .inl (.inr ⟨od, h⟩)
theorem TupZ.ex {H' : Hp} {xs : List V} (e : Ex H H') (h : TupZ H p xs) : TupZ H' p xs := let ⟨od, n, h⟩ := h; ⟨od, n, e.get h⟩
theorem k_tupZ {xs : List V} (h : SqL K H p xs) (q : ∀ l H1, H l = none → Ex H H1 → TupZ H1 l xs → Q (.ref l) H1) : rTupZ K [.ref p] H Q := ⟨p, xs, rfl, h, fun l od n hd => q l _ n (Ex.new n) ⟨od, hd, upd_same⟩⟩
theorem k_m1 {r : V → List V → Hp → VK → Prop} {to te : TE} (h : to σ H fun x H1 => (∃ a, x = .str a) ∧ te σ H1 fun y H2 => r x [y] H2 Q) : tM1 r to te σ H Q := h
theorem k_dget2 {td ty tx : TE} (h : td σ H fun x H1 => ∃ a, x = .ref a ∧ IsD H1 a ∧ ty σ H1 fun y H2 => tx σ H2 fun z H3 => ∃ o, DGet H3 a y o ∧ Q (o.getD z) H3) : tDGet2 td ty tx σ H Q := h
theorem k_dget2E {kvs : List (Key × V)} {k : Key} {y : V} {R : Option V → Prop} (hy : y = kV k) (h : Rd H p (.dK kvs)) (q : R (valV kvs k)) : ∃ o, DGet H p y o ∧ R o := by
  subst hy
  exact ⟨_, DGet.rd h, q⟩
/-- t + u, tuples of any length -/
theorem k_catA {a b : Addr} {xs ys : List V} (ha : SqT K H a xs) (hb : SqT K H b ys) (hz : xs.length + ys.length ≤ sizeLine) (q : ∀ t H1, Ex H H1 → SqT K H1 t (xs ++ ys) → Q (.ref t) H1) : rCatA K (.ref a) (.ref b) H Q := by
  refine ⟨a, b, xs, ys, rfl, rfl, ha, hb, hz, fun e => ?_, fun n e => ?_, fun n1 n2 t ht => ?_⟩
  · subst e
    exact q b H (Ex.refl _) hb
  · subst e
    exact q a H (Ex.refl _) (by rw [List.append_nil]; exact ha)
  · exact q t _ (Ex.new ht) (.inl (.inl upd_same))
/-- xs.index(x), ints -/
theorem k_indexI {xs : List Int} {x : Int} (h : SqL K H p (xs.map V.int)) (hx : x ∈ xs) (q : Q (.int (xs.idxOf x : Nat)) H) : rIndex K (.ref p) [.int x] H Q := by
  have hlt := List.idxOf_lt_length_iff.mpr hx
  refine ⟨p, xs.map V.int, .int x, xs.idxOf x, .int x, rfl, rfl, h, rfl, by simp [flatV], ?_, by simp [eqV], fun m z hm hz => ?_, q⟩
  · rw [List.getElem?_map, List.getElem?_eq_getElem hlt, List.getElem_idxOf hlt]
    rfl
  · rw [List.getElem?_map] at hz
    obtain ⟨y, hy, rfl⟩ := Option.map_eq_some_iff.mp hz
    obtain ⟨hy1, hy2⟩ := List.getElem?_eq_some_iff.mp hy
    have hne := List.not_of_lt_findIdx (p := fun z => z == x) (xs := xs) (i := m) (by exact hm)
    rw [hy2] at hne
    simpa [eqV] using hne
theorem pe_bmK {X : Cx} {T : String} {id : String} {name : Str} {o e : Expr} {es : List Expr} {to : TE} {t : TA} {apos cpos : Pos} {r : V → List V → Hp → VK → Prop} (hK : X.K = K) (pa : PlainAttrs T) (slot : Slot T name id) (hty : typeOf (.builtin id) = pure (.type "method_descriptor")) (hm : MtR X id r) (ho : PE X o to) (ha : PA X (e :: es) t)
    (hbase : attributeBase o name X.env (eval o X.env) = eval o X.env := by rfl)
    (hfew : ((backTo cpos (starEach (e :: es) X.env)).all (fun x => !x.1) && (backToKw cpos (keywordEach [] X.env)).all (fun x => x.1.isSome)
      && decide ((e :: es).length + ([] : List Keyword).length + (if ([] : List Keyword).isEmpty then 0 else 1) < 30)) = true := by rfl)
    (hline : (apos.endLine == cpos.line) = true := by rfl) (hs : starEach (e :: es) X.env = (false, eval e X.env) :: starEach es X.env := by rfl) (hplain : (backTo cpos (starEach es X.env)).any (·.1) = false := by rfl) :
    PE X (.Call (.Attribute o name apos) (e :: es) [] cpos) (tBM K T r to t) := hK ▸ pe_bm pa slot hty hm ho ha hbase hfew hline hs hplain
theorem mt_indexK {X : Cx} (h : X.K = K) : MtR X "list.index" (rIndex K) := h ▸ mt_index
theorem k_rng2 {ta : TA} {R : It → Hp → Prop} (h : ta σ H fun vs H1 => ∃ i j : Int, vs = [.int i, .int j] ∧ (-(2 ^ 62) ≤ i ∧ i < 2 ^ 62 ∧ -(2 ^ 62) ≤ j ∧ j < 2 ^ 62) ∧ R (Itr i (j - i).toNat) H1) : iRng2 ta σ H R := h
/-- {k: v} -/
theorem k_disp1 {tk tv : TE} {k : Key} {v : V} (hk : ∀ H1 (R : VK), R (kV k) H1 → tk σ H1 R) (hv : ∀ H1 (R : VK), R v H1 → tv σ H1 R) (q : ∀ p H1, H p = none → Ex H H1 → H1 p = some (.dK [(k, v)]) → Q (.ref p) H1) : tDisp [(tk, tv)] σ H Q := by
  intro p hp
  refine hk _ _ (hv _ _ ⟨upd_same, [(k, v)], rfl, Nat.le_of_ble_eq_true rfl, q p _ hp ?_ upd_same⟩)
  exact ExB.old (Ex.new hp) hp ExB.upd
end
end L3
end

section
/-! in a suite: isinstance of the exception that is handled, its fields, whichever its class -/
open PySem PySem.Spec PyProof.Rows L2 PySem.W
namespace L3
open L2N L2H
section
variable {X : Cx} {p : Addr × Obj} {cls : Value} {d : Option Addr}
def rIsS (K : PySem.W.Frag) (a : Addr) (cls : Value) (d : Option Addr) : List V → Hp → VK → Prop := fun xs H Q => ∃ D, cls = Value.ref D ∧ L2.ExcC K D ∧ rIsQ K D a d xs H Q
theorem cr_isS (hz : Zc cls d p.2) (hf : ∃ vs, p.2.data = .fields vs) (hp : p ∈ X.pn) : CallR X (.builtin "isinstance") (rIsS X.K p.1 cls d) := by
  intro pins s σ H xs us Q I r ⟨D, e, C, h⟩
  subst e
  exact cr_isQ C hz hf hp pins s σ H xs us Q I r h
def tXfS (K : PySem.W.Frag) (a : Addr) (cls : Value) (d : Option Addr) (f : Str) (te : TE) : TE := fun σ H Q => ∃ D, cls = Value.ref D ∧ L2.XfC K D ∧ PySem.W.findIn K (.ref D) f = some none ∧ tXfQ a d f te σ H Q
theorem pe_xfS {e : Expr} {te : TE} {pos : Pos} {n : Str} (hz : Zc cls d p.2) (hf : ∃ vs, p.2.data = .fields vs) (hp : p ∈ X.pn) (he : PE X e te) (hb : attributeBase e n X.env (eval e X.env) = eval e X.env := by rfl) :
    PE X (.Attribute e n pos) (tXfS X.K p.1 cls d n te) := by
  refine ⟨fun pins s σ H Q I ⟨D, e, T, no, h⟩ => ?_⟩
  subst e
  exact (pe_xfQ T no hz hf hp he hb).run pins s σ H Q I h
end
section
variable {X : Cx} {K : PySem.W.Frag} {a : Addr} {oe : Obj} {cls : Value} {d : Option Addr} {pn : List (Addr × Obj)}
theorem cr_isSu (hK : X.K = K) (hz : L2N.Zn cls d oe) (hf : ∃ vs, oe.data = .fields vs) : CallR (X.suite a ((a, oe) :: pn)) (.builtin "isinstance") (rIsS K a cls d) := by
  subst hK
  exact cr_isS (X := X.suite a ((a, oe) :: pn)) (p := (a, oe)) hz.zc hf List.mem_cons_self
theorem pe_xfSu {e : Expr} {te : TE} {pos : Pos} {n : Str} (hK : X.K = K) (hz : L2N.Zn cls d oe) (hf : ∃ vs, oe.data = .fields vs) (he : PE (X.suite a ((a, oe) :: pn)) e te) (hb : attributeBase e n X.env (eval e X.env) = eval e X.env := by rfl) :
    PE (X.suite a ((a, oe) :: pn)) (.Attribute e n pos) (tXfS K a cls d n te) := by
  subst hK
  exact pe_xfS (X := X.suite a ((a, oe) :: pn)) (p := (a, oe)) hz.zc hf List.mem_cons_self he hb
end
end L3
end

section
/-! pairs (own thing, data) compared by == and != -/
namespace GQ
open PySem PySem.SeqAt
open AutoSeq1 (wpAny_loadPart')
open MeetsSeq MeetsSeq2 MeetsSeq3 SeqRoads2
section
variable {prog : Program} {w : World} {A : Around} {R : Result → Shared → Prop}
theorem tuple_eqB (l b : Addr) (items items2 : Array Value) (n n2 : Nat) (dd dd2 : Option Addr) (sl sl2 : Array (Option Value)) (hsz : items.size = items2.size) (I : Nat → Shared → Prop)
    (turn : ∀ i (h1 : i < items.size) (h2 : i < items2.size) s, I i s → wpAny (model prog w) A.in1 (eqBool items[i] items2[i]) (fun r s' => if r = true then I (i + 1) s' else R (.ok (.ret (.bool false))) s') (fun e s' => R (.error e) s') s)
    (fin : ∀ s, I items.size s → R (.ok (.ret (.bool true))) s) {s : Shared} (hl1 : s.heap.get? l = some { cls := .type "tuple", dict := dd, data := .seq items n, slots := sl }) (hb1 : s.heap.get? b = some { cls := .type "tuple", dict := dd2, data := .seq items2 n2, slots := sl2 }) (h : I 0 s) :
    wpAny (model prog w) A.in1 (Builtin.«tuple.__eq__» ⟨[.ref l, .ref b], []⟩) (FinOf prog w A R) (fun e s' => R (.error e) s') s := by
  have f2 := AutoSeq1.sub_tuple_tuple
  have hZ : (items.toList.zip items2.toList).length = items.size := by simp [hsz]
  have h0 := h
  obtain ⟨hp, g, d, tk, os⟩ := s
  wp_walk using wpAny_loadPart' hl1, wpAny_loadPart' hb1, wpAny_forIn_list _ (fun rest b s' => b.1 = none ∧ ∃ i, rest = (items.toList.zip items2.toList).drop i ∧ i ≤ items.size ∧ I i s') _
  case turn =>
    rintro ⟨y, x⟩ rest b s' ⟨hb', i, hz, hi, hI⟩
    have hlt : i < (items.toList.zip items2.toList).length := by
      rcases Nat.lt_or_ge i (items.toList.zip items2.toList).length with h' | h'
      · exact h'
      · rw [List.drop_of_length_le h'] at hz; cases hz
    have h1 : i < items.size := hZ ▸ hlt
    have h2 : i < items2.size := hsz ▸ h1
    rw [List.drop_eq_getElem_cons hlt] at hz
    injection hz with hyx hrest
    have hy : y = items[i] := by have := congrArg Prod.fst hyx; simpa using this
    have hx : x = items2[i] := by have := congrArg Prod.snd hyx; simpa using this
    subst hy hx
    refine wpAny_bind (wpAny_mono (turn i h1 h2 s' hI) (fun r s2 q2 => ?_) fun _ _ x => x)
    cases r with
    | true =>
      rw [if_pos rfl] at q2
      wp_walk
      exact ⟨rfl, i + 1, hrest, h1, q2⟩
    | false =>
      rw [if_neg (by decide)] at q2
      obtain ⟨hp2, g2, d2, tk2, os2⟩ := s2
      wp_walk
      exact q2
  case fin =>
    rintro ⟨b1, b2⟩ s' ⟨hb', i, hz, hi, hI⟩
    simp only at hb'
    subst hb'
    have hge : items.size ≤ i := by
      rcases Nat.lt_or_ge i (items.toList.zip items2.toList).length with h' | h'
      · rw [List.drop_eq_getElem_cons h'] at hz; cases hz
      · exact hZ ▸ h'
    have hi' : i = items.size := by omega
    have hR : R (.ok (.ret (.bool true))) s' := fin s' (hi' ▸ hI)
    wp_walk
    simpa [Builtin.Tuple.tupleCompareSizes, hsz] using hR
  case h =>
    exact ⟨rfl, 0, rfl, Nat.zero_le _, h0⟩
theorem tuple_neB (l b : Addr) (items items2 : Array Value) (n n2 : Nat) (dd dd2 : Option Addr) (sl sl2 : Array (Option Value)) (hsz : items.size = items2.size) (I : Nat → Shared → Prop)
    (turn : ∀ i (h1 : i < items.size) (h2 : i < items2.size) s, I i s → wpAny (model prog w) A.in1 (eqBool items[i] items2[i]) (fun r s' => if r = true then I (i + 1) s' else R (.ok (.ret (.bool true))) s') (fun e s' => R (.error e) s') s)
    (fin : ∀ s, I items.size s → R (.ok (.ret (.bool false))) s) {s : Shared} (hl1 : s.heap.get? l = some { cls := .type "tuple", dict := dd, data := .seq items n, slots := sl }) (hb1 : s.heap.get? b = some { cls := .type "tuple", dict := dd2, data := .seq items2 n2, slots := sl2 }) (h : I 0 s) :
    wpAny (model prog w) A.in1 (Builtin.«tuple.__ne__» ⟨[.ref l, .ref b], []⟩) (FinOf prog w A R) (fun e s' => R (.error e) s') s := by
  have f2 := AutoSeq1.sub_tuple_tuple
  have hZ : (items.toList.zip items2.toList).length = items.size := by simp [hsz]
  have h0 := h
  obtain ⟨hp, g, d, tk, os⟩ := s
  wp_walk using wpAny_loadPart' hl1, wpAny_loadPart' hb1, wpAny_forIn_list _ (fun rest b s' => b.1 = none ∧ ∃ i, rest = (items.toList.zip items2.toList).drop i ∧ i ≤ items.size ∧ I i s') _
  case turn =>
    rintro ⟨y, x⟩ rest b s' ⟨hb', i, hz, hi, hI⟩
    have hlt : i < (items.toList.zip items2.toList).length := by
      rcases Nat.lt_or_ge i (items.toList.zip items2.toList).length with h' | h'
      · exact h'
      · rw [List.drop_of_length_le h'] at hz; cases hz
    have h1 : i < items.size := hZ ▸ hlt
    have h2 : i < items2.size := hsz ▸ h1
    rw [List.drop_eq_getElem_cons hlt] at hz
    injection hz with hyx hrest
    have hy : y = items[i] := by have := congrArg Prod.fst hyx; simpa using this
    have hx : x = items2[i] := by have := congrArg Prod.snd hyx; simpa using this
    subst hy hx
    refine wpAny_bind (wpAny_mono (turn i h1 h2 s' hI) (fun r s2 q2 => ?_) fun _ _ x => x)
    cases r with
    | true =>
      rw [if_pos rfl] at q2
      wp_walk
      exact ⟨rfl, i + 1, hrest, h1, q2⟩
    | false =>
      rw [if_neg (by decide)] at q2
      obtain ⟨hp2, g2, d2, tk2, os2⟩ := s2
      wp_walk
      exact q2
  case fin =>
    rintro ⟨b1, b2⟩ s' ⟨hb', i, hz, hi, hI⟩
    simp only at hb'
    subst hb'
    have hge : items.size ≤ i := by
      rcases Nat.lt_or_ge i (items.toList.zip items2.toList).length with h' | h'
      · rw [List.drop_eq_getElem_cons h'] at hz; cases hz
      · exact hZ ▸ h'
    have hi' : i = items.size := by omega
    have hR : R (.ok (.ret (.bool false))) s' := fin s' (hi' ▸ hI)
    wp_walk
    simpa [Builtin.Tuple.tupleCompareSizes, hsz] using hR
  case h =>
    exact ⟨rfl, 0, rfl, Nat.zero_le _, h0⟩
end
end GQ

namespace L3
open PySem PySem.Spec PyProof.Rows L2
theorem hu65 {A : Around} {k : Nat} (hr : Room k A) : A.units + 65 < cLine := by have := hr.un; omega
section
variable {X : Cx} {CX : CXT} {k j : Nat} {C : Addr} {ps : List Str} {sp : Sp} {E : XK}
/-- pairs of an own thing and data -/
def rPair (K : PySem.W.Frag) (C : Addr) (sp : Sp) (E : XK) (ng : Bool) : R2 := fun x y H Q => ∃ (a b p q : Addr) (t u : V) (dx : Addr) (fs : List (Str × V)) (ty : Value) (ds es : PyData), x = V.ref a ∧ y = V.ref b ∧ SqT K H a [.ref p, t] ∧ SqT K H b [.ref q, u] ∧ p ≠ q ∧
  H p = some (.ins C dx fs) ∧ TyX K H (.ref q) ty ∧ PySem.W.notFirst K C ty = true ∧ Dp K H t ds ∧ Dp K H u es ∧ SeqAt.shaped ds = true ∧ SeqAt.shaped es = true ∧
  sp [.ref p, .ref q] H (fun v H' => ∃ r : Bool, v = .bl r ∧ Ex H H' ∧ Q (.bl (if ng = true then !(r && PyData.eqv ds es) else (r && PyData.eqv ds es))) H') E
theorem pair_turn (cm : Met X.prog X.w X.K X.mg X.base CX k C "__eq__" ps sp) (hr : Room j X.A) (hk : k + 1 ≤ j) (hx : Passes CX X E) {pins : List (Addr × Obj)} {s : Shared} {σ : L2.St} {H : Hp} {p q dx : Addr} {fs : List (Str × V)} {ty : Value} {Q : VK} (I : Inv X pins σ H s) (hne : p ≠ q)
    (hp : H p = some (.ins C dx fs)) (hty : TyX X.K H (.ref q) ty) (nf : PySem.W.notFirst X.K C ty = true) (h : sp [.ref p, .ref q] H (fun v H' => ∃ r : Bool, v = .bl r ∧ Q (.bl r) H') E) :
    wpAny (model X.prog X.w) X.A.in1 (eqBool (.ref p) (.ref q)) (fun r s' => ∃ H', Inv X pins σ H' s' ∧ Q (.bl r) H') X.xe s := by
  obtain ⟨mA, J, _⟩ := ins_get I.hok hp
  obtain ⟨od, J, _⟩ := J.look
  obtain ⟨Z, kt, kp, _⟩ := kit_of (x := .ref q) (u := .ref q) I rfl hty
  obtain ⟨m, hF⟩ := I.fr
  have r1 : Room (k + 1) X.A := hr.mono hk
  have fr : X.A.in1.frames = X.A.frames := rfl
  obtain ⟨f, M, hc⟩ := eq_called (y := .ref q) (u := .ref q) cm r1.in1 fr hx I rfl h
  refine GQ.eqBool_refG hne ?_
  refine PySem.W.cmp_K (op := .Eq) r1.in1.units0 hF I.ok.mod.kin J (kt.ty _ _ I.kIn kp) nf M.at_ M.fn (wpAny_mono hc (fun w s' ⟨b, ew, H', I', q⟩ => ?_) fun _ _ z => z)
  subst ew
  exact ⟨b, rfl, H', I', q⟩
theorem data_turn (hu : X.A.units + 65 < cLine) {pins : List (Addr × Obj)} {s : Shared} {σ : L2.St} {H : Hp} {t u : V} {u1 u2 : Value} {ds es : PyData} (I : Inv X pins σ H s) (g : RelV t u1) (k : RelV u u2) (hd : Dp X.K H t ds) (he : Dp X.K H u es) (sd : SeqAt.shaped ds = true) (se : SeqAt.shaped es = true) :
    wpAny (model X.prog X.w) X.A.in1 (eqBool u1 u2) (fun r s' => r = PyData.eqv ds es ∧ s' = s) X.xe s := by
  obtain ⟨as, r1⟩ := Dp.reads I ds t _ hd g
  obtain ⟨bs, r2⟩ := Dp.reads I es u _ he k
  have hu2 : X.A.in1.units + 64 < cLine := by
    have : X.A.in1.units = X.A.units + 1 := rfl
    omega
  have e := SeqAt.eqAt_reads ds es X.A.in1 s u1 u2 as bs r1 r2 (SeqAt.canLay_of_shaped sd) (SeqAt.canLay_of_shaped se) (SeqAt.room_of_shaped sd hu2)
  exact e X.prog X.w X.xe _ ⟨rfl, rfl⟩
/-- the call, as the loop wants it -/
theorem sp_turn {sp : Sp} {E : XK} {p q : Addr} {H : Hp} {Q : VK} {e ng : Bool} (h : sp [.ref p, .ref q] H (fun v H' => ∃ r : Bool, v = .bl r ∧ Ex H H' ∧ Q (.bl (if ng = true then !(r && e) else (r && e))) H') E) :
    sp [.ref p, .ref q] H (fun v H' => ∃ r : Bool, v = .bl r ∧ (fun v H' => ∃ r : Bool, v = V.bl r ∧ Ex H H' ∧ Q (.bl (if ng = true then !(r && e) else (r && e))) H') (.bl r) H') E := by
  have e : (fun (v : V) (H' : Hp) => ∃ r : Bool, v = V.bl r ∧ (fun v H' => ∃ r : Bool, v = V.bl r ∧ Ex H H' ∧ Q (.bl (if ng = true then !(r && e) else (r && e))) H') (.bl r) H') = (fun v H' => ∃ r : Bool, v = V.bl r ∧ Ex H H' ∧ Q (.bl (if ng = true then !(r && e) else (r && e))) H') := by
    funext v H'
    refine propext ⟨fun ⟨r, e1, r', e2, q⟩ => ?_, fun ⟨r, e1, q⟩ => ⟨r, e1, r, rfl, q⟩⟩
    cases e2
    exact ⟨r, e1, q⟩
  rw [e]
  exact h
def PairI (X : Cx) (pins : List (Addr × Obj)) (σ : L2.St) (H : Hp) (s : Shared) (Q : VK) (e z : Bool) : Nat → Shared → Prop
  | 0, s' => s' = s
  | 1, s' => ∃ H', Inv X pins σ H' s' ∧ Ex H H' ∧ Q (.bl e) H'
  | _, s' => ∃ H', Inv X pins σ H' s' ∧ Q (.bl z) H'
theorem op_pairEq (hu : X.A.units + 65 < cLine) (cm : Met X.prog X.w X.K X.mg X.base CX k C "__eq__" ps sp) (hr : Room j X.A) (hk : k + 1 ≤ j) (hx : Passes CX X E) : OpR X (compareOp .Eq) (rPair X.K C sp E false) := by
  intro pins s σ H x y v u0 Q I rx ry ⟨a, b, p, q, t, u, dx, fs, ty, ds, es, ex, ey, ha, hb, hne, hp, hty, nf, hd, he, sd, se, h⟩
  subst ex ey
  cases rx
  cases ry
  obtain ⟨its, rv, ⟨⟨cls, dd, data, sl⟩, ho, hc, n, hd0⟩, hz⟩ := I.tuple ha
  obtain ⟨its2, rv2, ⟨⟨cls2, dd2, data2, sl2⟩, ho2, hc2, n2, hd2⟩, hz2⟩ := I.tuple hb
  simp only at hc hd0 hc2 hd2
  subst hc hd0 hc2 hd2
  cases rv with
  | cons g1 rv => cases rv with
    | cons g2 rv =>
      cases rv
      cases rv2 with
      | cons k1 rv2 => cases rv2 with
        | cons k2 rv2 =>
          cases rv2
          cases g1
          cases k1
          rename_i u1 u2
          show wpAny (model X.prog X.w) X.A (richCompare .Eq (.ref a) (.ref b)) (EP X pins σ Q) X.xe s
          refine wpAny_richCompare_same_room (op := .Eq) ⟨_, ho, rfl⟩ ⟨_, ho2, rfl⟩ PySem.F.slot_tuple_eq (GQ.call_here PySem.F.slot_tuple_eq ⟨_, ho, rfl⟩ PySem.F.entry_tuple_eq (PySem.F.args_tuple_eq_2 _ _) ?_) (by omega)
          refine GQ.tuple_eqB (R := wants (fun v s' => v ≠ .notImplemented ∧ EP X pins σ Q v s') X.xe) a b #[.ref p, u1] #[.ref q, u2] n n2 dd dd2 sl sl2 rfl
            (PairI X pins σ H s Q (PyData.eqv ds es) true) (fun i h1 h2 s' hI => ?_) (fun s' hI => ?_) ho ho2 rfl
          · rcases i with _ | _ | i
            · have hs : s' = s := hI
              subst hs
              show wpAny (model X.prog X.w) X.A.in1 (eqBool (.ref p) (.ref q)) _ _ _
              exact wpAny_mono (pair_turn (Q := fun v H' => ∃ r : Bool, v = V.bl r ∧ Ex H H' ∧ Q (.bl (if false = true then !(r && PyData.eqv ds es) else (r && PyData.eqv ds es))) H') cm hr hk hx I hne hp hty nf (sp_turn h)) (fun r s2 ⟨H', I', r', e, eH, q⟩ => by
                cases e
                cases r with
                | true => exact (if_pos rfl).mpr ⟨H', I', eH, q⟩
                | false => exact (if_neg Bool.false_ne_true).mpr ⟨(fun x => nomatch x), .bl false, H', I', rfl, q⟩) fun _ _ x => x
            · obtain ⟨H', I', eH, q⟩ := hI
              show wpAny (model X.prog X.w) X.A.in1 (eqBool u1 u2) _ _ _
              exact wpAny_mono (data_turn hu I' g2 k2 (Dp_ex eH _ _ hd) (Dp_ex eH _ _ he) sd se) (fun r s2 ⟨er, es2⟩ => by
                subst es2
                cases r with
                | true => exact (if_pos rfl).mpr ⟨H', I', by rw [← er] at q; exact q⟩
                | false => exact (if_neg Bool.false_ne_true).mpr ⟨(fun x => nomatch x), .bl false, H', I', rfl, by rw [← er] at q; exact q⟩) fun _ _ x => x
            · exact absurd h1 (by simp)
          · obtain ⟨H', I', q⟩ := hI
            exact ⟨(fun x => nomatch x), .bl true, H', I', rfl, q⟩
theorem op_pairNe (hu : X.A.units + 65 < cLine) (cm : Met X.prog X.w X.K X.mg X.base CX k C "__eq__" ps sp) (hr : Room j X.A) (hk : k + 1 ≤ j) (hx : Passes CX X E) : OpR X (compareOp .NotEq) (rPair X.K C sp E true) := by
  intro pins s σ H x y v u0 Q I rx ry ⟨a, b, p, q, t, u, dx, fs, ty, ds, es, ex, ey, ha, hb, hne, hp, hty, nf, hd, he, sd, se, h⟩
  subst ex ey
  cases rx
  cases ry
  obtain ⟨its, rv, ⟨⟨cls, dd, data, sl⟩, ho, hc, n, hd0⟩, hz⟩ := I.tuple ha
  obtain ⟨its2, rv2, ⟨⟨cls2, dd2, data2, sl2⟩, ho2, hc2, n2, hd2⟩, hz2⟩ := I.tuple hb
  simp only at hc hd0 hc2 hd2
  subst hc hd0 hc2 hd2
  cases rv with
  | cons g1 rv => cases rv with
    | cons g2 rv =>
      cases rv
      cases rv2 with
      | cons k1 rv2 => cases rv2 with
        | cons k2 rv2 =>
          cases rv2
          cases g1
          cases k1
          rename_i u1 u2
          show wpAny (model X.prog X.w) X.A (richCompare .NotEq (.ref a) (.ref b)) (EP X pins σ Q) X.xe s
          refine wpAny_richCompare_same_room (op := .NotEq) ⟨_, ho, rfl⟩ ⟨_, ho2, rfl⟩ PySem.F.slot_tuple_ne (GQ.call_here PySem.F.slot_tuple_ne ⟨_, ho, rfl⟩ PySem.F.entry_tuple_ne (PySem.F.args_tuple_ne_2 _ _) ?_) (by omega)
          refine GQ.tuple_neB (R := wants (fun v s' => v ≠ .notImplemented ∧ EP X pins σ Q v s') X.xe) a b #[.ref p, u1] #[.ref q, u2] n n2 dd dd2 sl sl2 rfl
            (PairI X pins σ H s Q (!PyData.eqv ds es) false) (fun i h1 h2 s' hI => ?_) (fun s' hI => ?_) ho ho2 rfl
          · rcases i with _ | _ | i
            · have hs : s' = s := hI
              subst hs
              show wpAny (model X.prog X.w) X.A.in1 (eqBool (.ref p) (.ref q)) _ _ _
              exact wpAny_mono (pair_turn (Q := fun v H' => ∃ r : Bool, v = V.bl r ∧ Ex H H' ∧ Q (.bl (if true = true then !(r && PyData.eqv ds es) else (r && PyData.eqv ds es))) H') cm hr hk hx I hne hp hty nf (sp_turn h)) (fun r s2 ⟨H', I', r', e, eH, q⟩ => by
                cases e
                cases r with
                | true => exact (if_pos rfl).mpr ⟨H', I', eH, q⟩
                | false => exact (if_neg Bool.false_ne_true).mpr ⟨(fun x => nomatch x), .bl true, H', I', rfl, q⟩) fun _ _ x => x
            · obtain ⟨H', I', eH, q⟩ := hI
              show wpAny (model X.prog X.w) X.A.in1 (eqBool u1 u2) _ _ _
              exact wpAny_mono (data_turn hu I' g2 k2 (Dp_ex eH _ _ hd) (Dp_ex eH _ _ he) sd se) (fun r s2 ⟨er, es2⟩ => by
                subst es2
                cases r with
                | true => exact (if_pos rfl).mpr ⟨H', I', by rw [← er] at q; exact q⟩
                | false => exact (if_neg Bool.false_ne_true).mpr ⟨(fun x => nomatch x), .bl true, H', I', rfl, by rw [← er] at q; exact q⟩) fun _ _ x => x
            · exact absurd h1 (by simp)
          · obtain ⟨H', I', q⟩ := hI
            exact ⟨(fun x => nomatch x), .bl false, H', I', rfl, q⟩
end
end L3
end

section
/-! in a suite: isinstance of the exception that is handled, with a tuple of classes; text.index(sign) -/
open PySem PySem.Spec PyProof.Rows L2 PySem.W
namespace L3
open L2N L2H
section
variable {X : Cx} {p : Addr × Obj} {cls : Value} {d : Option Addr}
def rIsST (K : PySem.W.Frag) (a : Addr) (cls : Value) (d : Option Addr) : List V → Hp → VK → Prop := fun xs H Q => ∃ D, cls = Value.ref D ∧ L2.ExcC K D ∧ rIsQT K D a d xs H Q
theorem cr_isST (hz : Zc cls d p.2) (hf : ∃ vs, p.2.data = .fields vs) (hp : p ∈ X.pn) : CallR X (.builtin "isinstance") (rIsST X.K p.1 cls d) := by
  intro pins s σ H xs us Q I r ⟨D, e, C, h⟩
  subst e
  exact cr_isQT C hz hf hp pins s σ H xs us Q I r h
end
section
variable {X : Cx} {K : PySem.W.Frag} {a : Addr} {oe : Obj} {cls : Value} {d : Option Addr} {pn : List (Addr × Obj)}
theorem cr_isSuT (hK : X.K = K) (hz : L2N.Zn cls d oe) (hf : ∃ vs, oe.data = .fields vs) : CallR (X.suite a ((a, oe) :: pn)) (.builtin "isinstance") (rIsST K a cls d) := by
  subst hK
  exact cr_isST (X := X.suite a ((a, oe) :: pn)) (p := (a, oe)) hz.zc hf List.mem_cons_self
end
def rSIdx : V → List V → Hp → VK → Prop := fun x xs H Q => ∃ a b i rest, x = .str a ∧ xs = [.str b] ∧ Builtin.Str.occurrences a b 0 a.length 1 = i :: rest ∧ Q (.int (i : Nat)) H
theorem mt_sidx {X : Cx} : MtR X "str.index" rSIdx := mt_sindex
end L3
end

section
namespace Lw
open PySem PySem.Spec PyProof.Rows L2

/-- the i-th statement of the top -/
def top (i : Nat) : Stmt := PySem.Challenge.pw_heapshares_k08_written_alike_up_to_addre.main.body.getD i (.Pass ⟨0, 0, 0, 0⟩)
abbrev s_BadHeap_init : Stmt := inClass (top 3) 0
abbrev s_NoName_init : Stmt := inClass (top 4) 0
abbrev s_Clash_init : Stmt := inClass (top 6) 0
abbrev s_NotInHeap_init : Stmt := inClass (top 7) 0
abbrev s_Lost_init : Stmt := inClass (top 8) 0
abbrev s_BadFigure_init : Stmt := inClass (top 9) 0
abbrev s_has_letters_only : Stmt := top 15
abbrev s_is_name : Stmt := top 16
abbrev s_Figure_init : Stmt := inClass (top 18) 0
abbrev s_Figure_eq : Stmt := inClass (top 18) 1
abbrev s_Figure_spot : Stmt := inClass (top 18) 2
abbrev s_figure_from : Stmt := top 19
abbrev s_outs_as_tuples : Stmt := top 20
abbrev s_held_spots : Stmt := top 21
abbrev s_figure_key : Stmt := top 22
abbrev s_names_ascend : Stmt := top 23
abbrev s_names_have_spots : Stmt := top 24
abbrev s_outs_lead_to_spots : Stmt := top 25
abbrev s_spots_are_numbered : Stmt := top 26
abbrev s_has_plain_spot : Stmt := top 27
abbrev s_Heap_init : Stmt := inClass (top 31) 0
abbrev s_Heap_eq : Stmt := inClass (top 31) 1
abbrev s_Heap_add : Stmt := inClass (top 31) 2
abbrev s_Heap_sub : Stmt := inClass (top 31) 3
abbrev s_Heap_size : Stmt := inClass (top 31) 4
abbrev s_Heap_value : Stmt := inClass (top 31) 5
abbrev s_Heap_cell : Stmt := inClass (top 31) 6
abbrev s_Heap_with_name : Stmt := inClass (top 31) 7
abbrev s_Heap_without_name : Stmt := inClass (top 31) 8
abbrev s_heap_names : Stmt := top 32
abbrev s_heap_cells : Stmt := top 33
abbrev s_heap_from : Stmt := top 34
abbrev s_address_outside : Stmt := top 35
abbrev s_heap_of_both : Stmt := top 36
abbrev s_lost_cells : Stmt := top 38
abbrev s_written : Stmt := top 40
abbrev s_plain_cells : Stmt := top 41
abbrev s_segment_word : Stmt := top 42
abbrev s_alike : Stmt := top 43
abbrev s_l_pool : Stmt := top 45
abbrev s_l_draw : Stmt := top 46
abbrev s_l_sort : Stmt := top 47
abbrev s_l_same : Stmt := top 48
abbrev s_l_names : Stmt := top 49
abbrev s_l_places : Stmt := top 50
abbrev s_l_due : Stmt := top 51
abbrev s_l_heap : Stmt := top 52
abbrev s_l_drawn : Stmt := top 53
abbrev s_l_made : Stmt := top 54
abbrev s_l_lost : Stmt := top 55
abbrev s_l_kept : Stmt := top 56
abbrev s_l_moved : Stmt := top 57
abbrev s_l_alike : Stmt := top 58
abbrev s_l_bent : Stmt := top 59
abbrev s_l_pair : Stmt := top 60
abbrev s_l_refuses : Stmt := top 61
abbrev s_l_far : Stmt := top 62
abbrev s_law : Stmt := top 63
def d_BadHeap_init : He.DefD := ⟨("BadHeap", some "__init__"), "__init__", "BadHeap.__init__", defArgs s_BadHeap_init, defBody s_BadHeap_init, defScope s_BadHeap_init, [], []⟩
def d_NoName_init : He.DefD := ⟨("NoName", some "__init__"), "__init__", "NoName.__init__", defArgs s_NoName_init, defBody s_NoName_init, defScope s_NoName_init, [], []⟩
def d_Clash_init : He.DefD := ⟨("Clash", some "__init__"), "__init__", "Clash.__init__", defArgs s_Clash_init, defBody s_Clash_init, defScope s_Clash_init, [], []⟩
def d_NotInHeap_init : He.DefD := ⟨("NotInHeap", some "__init__"), "__init__", "NotInHeap.__init__", defArgs s_NotInHeap_init, defBody s_NotInHeap_init, defScope s_NotInHeap_init, [], []⟩
def d_Lost_init : He.DefD := ⟨("Lost", some "__init__"), "__init__", "Lost.__init__", defArgs s_Lost_init, defBody s_Lost_init, defScope s_Lost_init, [], []⟩
def d_BadFigure_init : He.DefD := ⟨("BadFigure", some "__init__"), "__init__", "BadFigure.__init__", defArgs s_BadFigure_init, defBody s_BadFigure_init, defScope s_BadFigure_init, [], []⟩
def d_has_letters_only : He.DefD := ⟨("has_letters_only", none), "has_letters_only", "has_letters_only", defArgs s_has_letters_only, defBody s_has_letters_only, defScope s_has_letters_only, [], []⟩
def d_is_name : He.DefD := ⟨("is_name", none), "is_name", "is_name", defArgs s_is_name, defBody s_is_name, defScope s_is_name, [], []⟩
def d_Figure_init : He.DefD := ⟨("Figure", some "__init__"), "__init__", "Figure.__init__", defArgs s_Figure_init, defBody s_Figure_init, defScope s_Figure_init, [], []⟩
def d_Figure_eq : He.DefD := ⟨("Figure", some "__eq__"), "__eq__", "Figure.__eq__", defArgs s_Figure_eq, defBody s_Figure_eq, defScope s_Figure_eq, [], []⟩
def d_Figure_spot : He.DefD := ⟨("Figure", some "spot"), "spot", "Figure.spot", defArgs s_Figure_spot, defBody s_Figure_spot, defScope s_Figure_spot, [], []⟩
def d_figure_from : He.DefD := ⟨("figure_from", none), "figure_from", "figure_from", defArgs s_figure_from, defBody s_figure_from, defScope s_figure_from, [], []⟩
def d_outs_as_tuples : He.DefD := ⟨("outs_as_tuples", none), "outs_as_tuples", "outs_as_tuples", defArgs s_outs_as_tuples, defBody s_outs_as_tuples, defScope s_outs_as_tuples, [], []⟩
def d_held_spots : He.DefD := ⟨("held_spots", none), "held_spots", "held_spots", defArgs s_held_spots, defBody s_held_spots, defScope s_held_spots, [], []⟩
def d_figure_key : He.DefD := ⟨("figure_key", none), "figure_key", "figure_key", defArgs s_figure_key, defBody s_figure_key, defScope s_figure_key, [], []⟩
def d_names_ascend : He.DefD := ⟨("names_ascend", none), "names_ascend", "names_ascend", defArgs s_names_ascend, defBody s_names_ascend, defScope s_names_ascend, [], []⟩
def d_names_have_spots : He.DefD := ⟨("names_have_spots", none), "names_have_spots", "names_have_spots", defArgs s_names_have_spots, defBody s_names_have_spots, defScope s_names_have_spots, [], []⟩
def d_outs_lead_to_spots : He.DefD := ⟨("outs_lead_to_spots", none), "outs_lead_to_spots", "outs_lead_to_spots", defArgs s_outs_lead_to_spots, defBody s_outs_lead_to_spots, defScope s_outs_lead_to_spots, [], []⟩
def d_spots_are_numbered : He.DefD := ⟨("spots_are_numbered", none), "spots_are_numbered", "spots_are_numbered", defArgs s_spots_are_numbered, defBody s_spots_are_numbered, defScope s_spots_are_numbered, [], []⟩
def d_has_plain_spot : He.DefD := ⟨("has_plain_spot", none), "has_plain_spot", "has_plain_spot", defArgs s_has_plain_spot, defBody s_has_plain_spot, defScope s_has_plain_spot, [], []⟩
def d_Heap_init : He.DefD := ⟨("Heap", some "__init__"), "__init__", "Heap.__init__", defArgs s_Heap_init, defBody s_Heap_init, defScope s_Heap_init, [], []⟩
def d_Heap_eq : He.DefD := ⟨("Heap", some "__eq__"), "__eq__", "Heap.__eq__", defArgs s_Heap_eq, defBody s_Heap_eq, defScope s_Heap_eq, [], []⟩
def d_Heap_add : He.DefD := ⟨("Heap", some "__add__"), "__add__", "Heap.__add__", defArgs s_Heap_add, defBody s_Heap_add, defScope s_Heap_add, [], []⟩
def d_Heap_sub : He.DefD := ⟨("Heap", some "__sub__"), "__sub__", "Heap.__sub__", defArgs s_Heap_sub, defBody s_Heap_sub, defScope s_Heap_sub, [], []⟩
def d_Heap_size : He.DefD := ⟨("Heap", some "size"), "size", "Heap.size", defArgs s_Heap_size, defBody s_Heap_size, defScope s_Heap_size, [], []⟩
def d_Heap_value : He.DefD := ⟨("Heap", some "value"), "value", "Heap.value", defArgs s_Heap_value, defBody s_Heap_value, defScope s_Heap_value, [], []⟩
def d_Heap_cell : He.DefD := ⟨("Heap", some "cell"), "cell", "Heap.cell", defArgs s_Heap_cell, defBody s_Heap_cell, defScope s_Heap_cell, [], []⟩
def d_Heap_with_name : He.DefD := ⟨("Heap", some "with_name"), "with_name", "Heap.with_name", defArgs s_Heap_with_name, defBody s_Heap_with_name, defScope s_Heap_with_name, [], []⟩
def d_Heap_without_name : He.DefD := ⟨("Heap", some "without_name"), "without_name", "Heap.without_name", defArgs s_Heap_without_name, defBody s_Heap_without_name, defScope s_Heap_without_name, [], []⟩
def d_heap_names : He.DefD := ⟨("heap_names", none), "heap_names", "heap_names", defArgs s_heap_names, defBody s_heap_names, defScope s_heap_names, [], []⟩
def d_heap_cells : He.DefD := ⟨("heap_cells", none), "heap_cells", "heap_cells", defArgs s_heap_cells, defBody s_heap_cells, defScope s_heap_cells, [], []⟩
def d_heap_from : He.DefD := ⟨("heap_from", none), "heap_from", "heap_from", defArgs s_heap_from, defBody s_heap_from, defScope s_heap_from, [], []⟩
def d_address_outside : He.DefD := ⟨("address_outside", none), "address_outside", "address_outside", defArgs s_address_outside, defBody s_address_outside, defScope s_address_outside, [], []⟩
def d_heap_of_both : He.DefD := ⟨("heap_of_both", none), "heap_of_both", "heap_of_both", defArgs s_heap_of_both, defBody s_heap_of_both, defScope s_heap_of_both, [], []⟩
def d_lost_cells : He.DefD := ⟨("lost_cells", none), "lost_cells", "lost_cells", defArgs s_lost_cells, defBody s_lost_cells, defScope s_lost_cells, [], []⟩
def d_written : He.DefD := ⟨("written", none), "written", "written", defArgs s_written, defBody s_written, defScope s_written, [], []⟩
def d_plain_cells : He.DefD := ⟨("plain_cells", none), "plain_cells", "plain_cells", defArgs s_plain_cells, defBody s_plain_cells, defScope s_plain_cells, [], []⟩
def d_segment_word : He.DefD := ⟨("segment_word", none), "segment_word", "segment_word", defArgs s_segment_word, defBody s_segment_word, defScope s_segment_word, [], []⟩
def d_alike : He.DefD := ⟨("alike", none), "alike", "alike", defArgs s_alike, defBody s_alike, defScope s_alike, [], []⟩
def d_l_pool : He.DefD := ⟨("_law_pool", none), "_law_pool", "_law_pool", defArgs s_l_pool, defBody s_l_pool, defScope s_l_pool, [], []⟩
def d_l_draw : He.DefD := ⟨("_law_draw", none), "_law_draw", "_law_draw", defArgs s_l_draw, defBody s_l_draw, defScope s_l_draw, [], []⟩
def d_l_sort : He.DefD := ⟨("_law_sort", none), "_law_sort", "_law_sort", defArgs s_l_sort, defBody s_l_sort, defScope s_l_sort, [], []⟩
def d_l_same : He.DefD := ⟨("_law_same", none), "_law_same", "_law_same", defArgs s_l_same, defBody s_l_same, defScope s_l_same, [], []⟩
def d_l_names : He.DefD := ⟨("_law_names", none), "_law_names", "_law_names", defArgs s_l_names, defBody s_l_names, defScope s_l_names, [], []⟩
def d_l_places : He.DefD := ⟨("_law_places", none), "_law_places", "_law_places", defArgs s_l_places, defBody s_l_places, defScope s_l_places, [], []⟩
def d_l_due : He.DefD := ⟨("_law_due", none), "_law_due", "_law_due", defArgs s_l_due, defBody s_l_due, defScope s_l_due, [], []⟩
def d_l_heap : He.DefD := ⟨("_law_heap", none), "_law_heap", "_law_heap", defArgs s_l_heap, defBody s_l_heap, defScope s_l_heap, [], []⟩
def d_l_drawn : He.DefD := ⟨("_law_drawn", none), "_law_drawn", "_law_drawn", defArgs s_l_drawn, defBody s_l_drawn, defScope s_l_drawn, [], []⟩
def d_l_made : He.DefD := ⟨("_law_made", none), "_law_made", "_law_made", defArgs s_l_made, defBody s_l_made, defScope s_l_made, [], []⟩
def d_l_lost : He.DefD := ⟨("_law_lost", none), "_law_lost", "_law_lost", defArgs s_l_lost, defBody s_l_lost, defScope s_l_lost, [], []⟩
def d_l_kept : He.DefD := ⟨("_law_kept", none), "_law_kept", "_law_kept", defArgs s_l_kept, defBody s_l_kept, defScope s_l_kept, [], []⟩
def d_l_moved : He.DefD := ⟨("_law_moved", none), "_law_moved", "_law_moved", defArgs s_l_moved, defBody s_l_moved, defScope s_l_moved, [], []⟩
def d_l_alike : He.DefD := ⟨("_law_alike", none), "_law_alike", "_law_alike", defArgs s_l_alike, defBody s_l_alike, defScope s_l_alike, [], []⟩
def d_l_bent : He.DefD := ⟨("_law_bent", none), "_law_bent", "_law_bent", defArgs s_l_bent, defBody s_l_bent, defScope s_l_bent, [], []⟩
def d_l_pair : He.DefD := ⟨("_law_pair", none), "_law_pair", "_law_pair", defArgs s_l_pair, defBody s_l_pair, defScope s_l_pair, [], []⟩
def d_l_refuses : He.DefD := ⟨("_law_refuses", none), "_law_refuses", "_law_refuses", defArgs s_l_refuses, defBody s_l_refuses, defScope s_l_refuses, [], []⟩
def d_l_far : He.DefD := ⟨("_law_far", none), "_law_far", "_law_far", defArgs s_l_far, defBody s_l_far, defScope s_l_far, [], []⟩
def d_law : He.DefD := ⟨("law", none), "law", "law", defArgs s_law, defBody s_law, defScope s_law, [], []⟩
def fa : List He.Fa := [.glo "HeapError", .glo "BadHeap", .glo "NoName", .glo "OtherNames", .glo "Clash", .glo "NotInHeap", .glo "Lost", .glo "BadFigure", .glo "NOT_NAMES", .glo "has_letters_only", .glo "is_name", .glo "Figure", .glo "figure_from", .glo "outs_as_tuples", .glo "held_spots", .glo "figure_key", .glo "names_ascend", .glo "names_have_spots", .glo "outs_lead_to_spots", .glo "spots_are_numbered", .glo "has_plain_spot", .glo "MARKS_OF_CELLS", .glo "Heap", .glo "heap_names", .glo "heap_cells", .glo "heap_from", .glo "address_outside", .glo "heap_of_both", .glo "lost_cells", .glo "written", .glo "plain_cells", .glo "segment_word", .glo "alike", .glo "_law_pool", .glo "_law_draw", .glo "_law_sort", .glo "_law_same", .glo "_law_names", .glo "_law_places", .glo "_law_due", .glo "_law_heap", .glo "_law_drawn", .glo "_law_made", .glo "_law_lost", .glo "_law_kept", .glo "_law_moved", .glo "_law_alike", .glo "_law_bent", .glo "_law_pair", .glo "_law_refuses", .glo "_law_far", .glo "law", .free "len", .free "int", .free "abs", .free "isinstance", .free "bool", .free "str", .free "tuple", .free "list", .free "sorted", .free "dict", .free "range", .free "enumerate", .free "zip", .free "max", .free "min", .free "all", .free "any", .free "sum", .free "ValueError", .free "super", .str "LETTERS" "abcdefghijklmnopqrstuvwxyz", .int "MOST_IN_NAME" 4, .int "WHOLE" 12, .int "MOST_VALUE" 9999, .cls "Figure", .mkr "Figure", .keep "Figure", .noat "Figure" "names", .noat "Figure" "at", .noat "Figure" "outs", .noat "Figure" "held", .noat "Figure" "key", .meth "Figure" "__init__", .meth "Figure" "__eq__", .meth "Figure" "spot", .cls "Heap", .mkr "Heap", .keep "Heap", .noat "Heap" "names", .noat "Heap" "cells", .noat "Heap" "_rows", .meth "Heap" "__init__", .meth "Heap" "__eq__", .meth "Heap" "__add__", .meth "Heap" "__sub__", .meth "Heap" "value", .meth "Heap" "cell", .meth "Heap" "with_name", .meth "Heap" "without_name", .exm "HeapError" "HeapError" true, .exc "HeapError", .exm "BadHeap" "HeapError" true, .exm "NoName" "HeapError" true, .exm "OtherNames" "HeapError" true, .exc "OtherNames", .exm "Clash" "HeapError" true, .exm "NotInHeap" "HeapError" true, .exm "Lost" "HeapError" true, .exm "BadFigure" "HeapError" true]
def fn : List He.DefD := [d_has_letters_only, d_is_name, d_Figure_init, d_Figure_eq, d_Figure_spot, d_figure_from, d_outs_as_tuples, d_held_spots, d_figure_key, d_names_ascend, d_names_have_spots, d_outs_lead_to_spots, d_spots_are_numbered, d_has_plain_spot, d_Heap_init, d_Heap_eq, d_Heap_add, d_Heap_sub, d_Heap_value, d_Heap_cell, d_Heap_with_name, d_Heap_without_name, d_heap_names, d_heap_cells, d_heap_from, d_address_outside, d_heap_of_both, d_lost_cells, d_written, d_plain_cells, d_segment_word, d_alike, d_l_pool, d_l_draw, d_l_sort, d_l_same, d_l_names, d_l_places, d_l_due, d_l_heap, d_l_drawn, d_l_made, d_l_lost, d_l_kept, d_l_moved, d_l_alike, d_l_bent, d_l_pair, d_l_refuses, d_l_far, d_law]
def ex (K : PySem.W.Frag) : Bool := He.tupB K "NOT_NAMES" [.str "nil", .str "some", .str "or", .str "any", .str "cell", .str "row", .str "proc", .str "if", .str "else", .str "end", .str "free", .str "new", .str "link", .str "mark", .str "drop"] && (He.tupB K "MARKS_OF_CELLS" [.str "a", .str "b", .str "c"])
abbrev hk : PySem.W.Hook := He.hookX 5 fa fn [] [] ex
/-- the written part and the module's names, as the head leaves them -/
structure Tx (w : World) (K : PySem.W.Frag) (mg : Str → Option Value) : Prop where
  ex : ∃ h : Heap, K.In h ∧ h.Ns mainGlobals mg ∧ He.SaysX fa fn [] [] ex w h K
section
variable {w : World} {K : PySem.W.Frag} {mg : Str → Option Value}
theorem Tx.kin (T : Tx w K mg) : ∃ h : Heap, K.In h ∧ h.Ns mainGlobals mg ∧ He.SaysD fa fn K := by
  obtain ⟨h, a, b, c⟩ := T.ex
  exact ⟨h, a, b, c.t.d⟩
theorem Tx.m_HeapError (T : Tx w K mg) : mg "HeapError" = some (.ref (He.ga K "HeapError")) := by
  obtain ⟨h, a, b, c⟩ := T.kin
  exact He.glo_ok a b (c.fact 0 (f := .glo "HeapError") rfl)
theorem Tx.c_HeapError (T : Tx w K mg) : ∃ u, mg "HeapError" = some u ∧ RelV (.ref (He.ga K "HeapError")) u := ⟨_, T.m_HeapError, rfl⟩
theorem Tx.m_BadHeap (T : Tx w K mg) : mg "BadHeap" = some (.ref (He.ga K "BadHeap")) := by
  obtain ⟨h, a, b, c⟩ := T.kin
  exact He.glo_ok a b (c.fact 1 (f := .glo "BadHeap") rfl)
theorem Tx.c_BadHeap (T : Tx w K mg) : ∃ u, mg "BadHeap" = some u ∧ RelV (.ref (He.ga K "BadHeap")) u := ⟨_, T.m_BadHeap, rfl⟩
theorem Tx.m_NoName (T : Tx w K mg) : mg "NoName" = some (.ref (He.ga K "NoName")) := by
  obtain ⟨h, a, b, c⟩ := T.kin
  exact He.glo_ok a b (c.fact 2 (f := .glo "NoName") rfl)
theorem Tx.c_NoName (T : Tx w K mg) : ∃ u, mg "NoName" = some u ∧ RelV (.ref (He.ga K "NoName")) u := ⟨_, T.m_NoName, rfl⟩
theorem Tx.m_OtherNames (T : Tx w K mg) : mg "OtherNames" = some (.ref (He.ga K "OtherNames")) := by
  obtain ⟨h, a, b, c⟩ := T.kin
  exact He.glo_ok a b (c.fact 3 (f := .glo "OtherNames") rfl)
theorem Tx.c_OtherNames (T : Tx w K mg) : ∃ u, mg "OtherNames" = some u ∧ RelV (.ref (He.ga K "OtherNames")) u := ⟨_, T.m_OtherNames, rfl⟩
theorem Tx.m_Clash (T : Tx w K mg) : mg "Clash" = some (.ref (He.ga K "Clash")) := by
  obtain ⟨h, a, b, c⟩ := T.kin
  exact He.glo_ok a b (c.fact 4 (f := .glo "Clash") rfl)
theorem Tx.c_Clash (T : Tx w K mg) : ∃ u, mg "Clash" = some u ∧ RelV (.ref (He.ga K "Clash")) u := ⟨_, T.m_Clash, rfl⟩
theorem Tx.m_NotInHeap (T : Tx w K mg) : mg "NotInHeap" = some (.ref (He.ga K "NotInHeap")) := by
  obtain ⟨h, a, b, c⟩ := T.kin
  exact He.glo_ok a b (c.fact 5 (f := .glo "NotInHeap") rfl)
theorem Tx.c_NotInHeap (T : Tx w K mg) : ∃ u, mg "NotInHeap" = some u ∧ RelV (.ref (He.ga K "NotInHeap")) u := ⟨_, T.m_NotInHeap, rfl⟩
theorem Tx.m_Lost (T : Tx w K mg) : mg "Lost" = some (.ref (He.ga K "Lost")) := by
  obtain ⟨h, a, b, c⟩ := T.kin
  exact He.glo_ok a b (c.fact 6 (f := .glo "Lost") rfl)
theorem Tx.c_Lost (T : Tx w K mg) : ∃ u, mg "Lost" = some u ∧ RelV (.ref (He.ga K "Lost")) u := ⟨_, T.m_Lost, rfl⟩
theorem Tx.m_BadFigure (T : Tx w K mg) : mg "BadFigure" = some (.ref (He.ga K "BadFigure")) := by
  obtain ⟨h, a, b, c⟩ := T.kin
  exact He.glo_ok a b (c.fact 7 (f := .glo "BadFigure") rfl)
theorem Tx.c_BadFigure (T : Tx w K mg) : ∃ u, mg "BadFigure" = some u ∧ RelV (.ref (He.ga K "BadFigure")) u := ⟨_, T.m_BadFigure, rfl⟩
theorem Tx.m_NOT_NAMES (T : Tx w K mg) : mg "NOT_NAMES" = some (.ref (He.ga K "NOT_NAMES")) := by
  obtain ⟨h, a, b, c⟩ := T.kin
  exact He.glo_ok a b (c.fact 8 (f := .glo "NOT_NAMES") rfl)
theorem Tx.g_NOT_NAMES (T : Tx w K mg) : ∃ u, mg "NOT_NAMES" = some u ∧ RelV (.ref (He.ga K "NOT_NAMES")) u := ⟨_, T.m_NOT_NAMES, rfl⟩
theorem Tx.m_has_letters_only (T : Tx w K mg) : mg "has_letters_only" = some (.ref (He.ga K "has_letters_only")) := by
  obtain ⟨h, a, b, c⟩ := T.kin
  exact He.glo_ok a b (c.fact 9 (f := .glo "has_letters_only") rfl)
theorem Tx.m_is_name (T : Tx w K mg) : mg "is_name" = some (.ref (He.ga K "is_name")) := by
  obtain ⟨h, a, b, c⟩ := T.kin
  exact He.glo_ok a b (c.fact 10 (f := .glo "is_name") rfl)
theorem Tx.m_Figure (T : Tx w K mg) : mg "Figure" = some (.ref (He.ga K "Figure")) := by
  obtain ⟨h, a, b, c⟩ := T.kin
  exact He.glo_ok a b (c.fact 11 (f := .glo "Figure") rfl)
theorem Tx.c_Figure (T : Tx w K mg) : ∃ u, mg "Figure" = some u ∧ RelV (.ref (He.ga K "Figure")) u := ⟨_, T.m_Figure, rfl⟩
theorem Tx.m_figure_from (T : Tx w K mg) : mg "figure_from" = some (.ref (He.ga K "figure_from")) := by
  obtain ⟨h, a, b, c⟩ := T.kin
  exact He.glo_ok a b (c.fact 12 (f := .glo "figure_from") rfl)
theorem Tx.m_outs_as_tuples (T : Tx w K mg) : mg "outs_as_tuples" = some (.ref (He.ga K "outs_as_tuples")) := by
  obtain ⟨h, a, b, c⟩ := T.kin
  exact He.glo_ok a b (c.fact 13 (f := .glo "outs_as_tuples") rfl)
theorem Tx.m_held_spots (T : Tx w K mg) : mg "held_spots" = some (.ref (He.ga K "held_spots")) := by
  obtain ⟨h, a, b, c⟩ := T.kin
  exact He.glo_ok a b (c.fact 14 (f := .glo "held_spots") rfl)
theorem Tx.m_figure_key (T : Tx w K mg) : mg "figure_key" = some (.ref (He.ga K "figure_key")) := by
  obtain ⟨h, a, b, c⟩ := T.kin
  exact He.glo_ok a b (c.fact 15 (f := .glo "figure_key") rfl)
theorem Tx.m_names_ascend (T : Tx w K mg) : mg "names_ascend" = some (.ref (He.ga K "names_ascend")) := by
  obtain ⟨h, a, b, c⟩ := T.kin
  exact He.glo_ok a b (c.fact 16 (f := .glo "names_ascend") rfl)
theorem Tx.m_names_have_spots (T : Tx w K mg) : mg "names_have_spots" = some (.ref (He.ga K "names_have_spots")) := by
  obtain ⟨h, a, b, c⟩ := T.kin
  exact He.glo_ok a b (c.fact 17 (f := .glo "names_have_spots") rfl)
theorem Tx.m_outs_lead_to_spots (T : Tx w K mg) : mg "outs_lead_to_spots" = some (.ref (He.ga K "outs_lead_to_spots")) := by
  obtain ⟨h, a, b, c⟩ := T.kin
  exact He.glo_ok a b (c.fact 18 (f := .glo "outs_lead_to_spots") rfl)
theorem Tx.m_spots_are_numbered (T : Tx w K mg) : mg "spots_are_numbered" = some (.ref (He.ga K "spots_are_numbered")) := by
  obtain ⟨h, a, b, c⟩ := T.kin
  exact He.glo_ok a b (c.fact 19 (f := .glo "spots_are_numbered") rfl)
theorem Tx.m_has_plain_spot (T : Tx w K mg) : mg "has_plain_spot" = some (.ref (He.ga K "has_plain_spot")) := by
  obtain ⟨h, a, b, c⟩ := T.kin
  exact He.glo_ok a b (c.fact 20 (f := .glo "has_plain_spot") rfl)
theorem Tx.m_MARKS_OF_CELLS (T : Tx w K mg) : mg "MARKS_OF_CELLS" = some (.ref (He.ga K "MARKS_OF_CELLS")) := by
  obtain ⟨h, a, b, c⟩ := T.kin
  exact He.glo_ok a b (c.fact 21 (f := .glo "MARKS_OF_CELLS") rfl)
theorem Tx.g_MARKS_OF_CELLS (T : Tx w K mg) : ∃ u, mg "MARKS_OF_CELLS" = some u ∧ RelV (.ref (He.ga K "MARKS_OF_CELLS")) u := ⟨_, T.m_MARKS_OF_CELLS, rfl⟩
theorem Tx.m_Heap (T : Tx w K mg) : mg "Heap" = some (.ref (He.ga K "Heap")) := by
  obtain ⟨h, a, b, c⟩ := T.kin
  exact He.glo_ok a b (c.fact 22 (f := .glo "Heap") rfl)
theorem Tx.c_Heap (T : Tx w K mg) : ∃ u, mg "Heap" = some u ∧ RelV (.ref (He.ga K "Heap")) u := ⟨_, T.m_Heap, rfl⟩
theorem Tx.m_heap_names (T : Tx w K mg) : mg "heap_names" = some (.ref (He.ga K "heap_names")) := by
  obtain ⟨h, a, b, c⟩ := T.kin
  exact He.glo_ok a b (c.fact 23 (f := .glo "heap_names") rfl)
theorem Tx.m_heap_cells (T : Tx w K mg) : mg "heap_cells" = some (.ref (He.ga K "heap_cells")) := by
  obtain ⟨h, a, b, c⟩ := T.kin
  exact He.glo_ok a b (c.fact 24 (f := .glo "heap_cells") rfl)
theorem Tx.m_heap_from (T : Tx w K mg) : mg "heap_from" = some (.ref (He.ga K "heap_from")) := by
  obtain ⟨h, a, b, c⟩ := T.kin
  exact He.glo_ok a b (c.fact 25 (f := .glo "heap_from") rfl)
theorem Tx.m_address_outside (T : Tx w K mg) : mg "address_outside" = some (.ref (He.ga K "address_outside")) := by
  obtain ⟨h, a, b, c⟩ := T.kin
  exact He.glo_ok a b (c.fact 26 (f := .glo "address_outside") rfl)
theorem Tx.m_heap_of_both (T : Tx w K mg) : mg "heap_of_both" = some (.ref (He.ga K "heap_of_both")) := by
  obtain ⟨h, a, b, c⟩ := T.kin
  exact He.glo_ok a b (c.fact 27 (f := .glo "heap_of_both") rfl)
theorem Tx.m_lost_cells (T : Tx w K mg) : mg "lost_cells" = some (.ref (He.ga K "lost_cells")) := by
  obtain ⟨h, a, b, c⟩ := T.kin
  exact He.glo_ok a b (c.fact 28 (f := .glo "lost_cells") rfl)
theorem Tx.m_written (T : Tx w K mg) : mg "written" = some (.ref (He.ga K "written")) := by
  obtain ⟨h, a, b, c⟩ := T.kin
  exact He.glo_ok a b (c.fact 29 (f := .glo "written") rfl)
theorem Tx.m_plain_cells (T : Tx w K mg) : mg "plain_cells" = some (.ref (He.ga K "plain_cells")) := by
  obtain ⟨h, a, b, c⟩ := T.kin
  exact He.glo_ok a b (c.fact 30 (f := .glo "plain_cells") rfl)
theorem Tx.m_segment_word (T : Tx w K mg) : mg "segment_word" = some (.ref (He.ga K "segment_word")) := by
  obtain ⟨h, a, b, c⟩ := T.kin
  exact He.glo_ok a b (c.fact 31 (f := .glo "segment_word") rfl)
theorem Tx.m_alike (T : Tx w K mg) : mg "alike" = some (.ref (He.ga K "alike")) := by
  obtain ⟨h, a, b, c⟩ := T.kin
  exact He.glo_ok a b (c.fact 32 (f := .glo "alike") rfl)
theorem Tx.m__law_pool (T : Tx w K mg) : mg "_law_pool" = some (.ref (He.ga K "_law_pool")) := by
  obtain ⟨h, a, b, c⟩ := T.kin
  exact He.glo_ok a b (c.fact 33 (f := .glo "_law_pool") rfl)
theorem Tx.m__law_draw (T : Tx w K mg) : mg "_law_draw" = some (.ref (He.ga K "_law_draw")) := by
  obtain ⟨h, a, b, c⟩ := T.kin
  exact He.glo_ok a b (c.fact 34 (f := .glo "_law_draw") rfl)
theorem Tx.m__law_sort (T : Tx w K mg) : mg "_law_sort" = some (.ref (He.ga K "_law_sort")) := by
  obtain ⟨h, a, b, c⟩ := T.kin
  exact He.glo_ok a b (c.fact 35 (f := .glo "_law_sort") rfl)
theorem Tx.m__law_same (T : Tx w K mg) : mg "_law_same" = some (.ref (He.ga K "_law_same")) := by
  obtain ⟨h, a, b, c⟩ := T.kin
  exact He.glo_ok a b (c.fact 36 (f := .glo "_law_same") rfl)
theorem Tx.m__law_names (T : Tx w K mg) : mg "_law_names" = some (.ref (He.ga K "_law_names")) := by
  obtain ⟨h, a, b, c⟩ := T.kin
  exact He.glo_ok a b (c.fact 37 (f := .glo "_law_names") rfl)
theorem Tx.m__law_places (T : Tx w K mg) : mg "_law_places" = some (.ref (He.ga K "_law_places")) := by
  obtain ⟨h, a, b, c⟩ := T.kin
  exact He.glo_ok a b (c.fact 38 (f := .glo "_law_places") rfl)
theorem Tx.m__law_due (T : Tx w K mg) : mg "_law_due" = some (.ref (He.ga K "_law_due")) := by
  obtain ⟨h, a, b, c⟩ := T.kin
  exact He.glo_ok a b (c.fact 39 (f := .glo "_law_due") rfl)
theorem Tx.m__law_heap (T : Tx w K mg) : mg "_law_heap" = some (.ref (He.ga K "_law_heap")) := by
  obtain ⟨h, a, b, c⟩ := T.kin
  exact He.glo_ok a b (c.fact 40 (f := .glo "_law_heap") rfl)
theorem Tx.m__law_drawn (T : Tx w K mg) : mg "_law_drawn" = some (.ref (He.ga K "_law_drawn")) := by
  obtain ⟨h, a, b, c⟩ := T.kin
  exact He.glo_ok a b (c.fact 41 (f := .glo "_law_drawn") rfl)
theorem Tx.m__law_made (T : Tx w K mg) : mg "_law_made" = some (.ref (He.ga K "_law_made")) := by
  obtain ⟨h, a, b, c⟩ := T.kin
  exact He.glo_ok a b (c.fact 42 (f := .glo "_law_made") rfl)
theorem Tx.m__law_lost (T : Tx w K mg) : mg "_law_lost" = some (.ref (He.ga K "_law_lost")) := by
  obtain ⟨h, a, b, c⟩ := T.kin
  exact He.glo_ok a b (c.fact 43 (f := .glo "_law_lost") rfl)
theorem Tx.m__law_kept (T : Tx w K mg) : mg "_law_kept" = some (.ref (He.ga K "_law_kept")) := by
  obtain ⟨h, a, b, c⟩ := T.kin
  exact He.glo_ok a b (c.fact 44 (f := .glo "_law_kept") rfl)
theorem Tx.m__law_moved (T : Tx w K mg) : mg "_law_moved" = some (.ref (He.ga K "_law_moved")) := by
  obtain ⟨h, a, b, c⟩ := T.kin
  exact He.glo_ok a b (c.fact 45 (f := .glo "_law_moved") rfl)
theorem Tx.m__law_alike (T : Tx w K mg) : mg "_law_alike" = some (.ref (He.ga K "_law_alike")) := by
  obtain ⟨h, a, b, c⟩ := T.kin
  exact He.glo_ok a b (c.fact 46 (f := .glo "_law_alike") rfl)
theorem Tx.m__law_bent (T : Tx w K mg) : mg "_law_bent" = some (.ref (He.ga K "_law_bent")) := by
  obtain ⟨h, a, b, c⟩ := T.kin
  exact He.glo_ok a b (c.fact 47 (f := .glo "_law_bent") rfl)
theorem Tx.m__law_pair (T : Tx w K mg) : mg "_law_pair" = some (.ref (He.ga K "_law_pair")) := by
  obtain ⟨h, a, b, c⟩ := T.kin
  exact He.glo_ok a b (c.fact 48 (f := .glo "_law_pair") rfl)
theorem Tx.m__law_refuses (T : Tx w K mg) : mg "_law_refuses" = some (.ref (He.ga K "_law_refuses")) := by
  obtain ⟨h, a, b, c⟩ := T.kin
  exact He.glo_ok a b (c.fact 49 (f := .glo "_law_refuses") rfl)
theorem Tx.m__law_far (T : Tx w K mg) : mg "_law_far" = some (.ref (He.ga K "_law_far")) := by
  obtain ⟨h, a, b, c⟩ := T.kin
  exact He.glo_ok a b (c.fact 50 (f := .glo "_law_far") rfl)
theorem Tx.m_law (T : Tx w K mg) : mg "law" = some (.ref (He.ga K "law")) := by
  obtain ⟨h, a, b, c⟩ := T.kin
  exact He.glo_ok a b (c.fact 51 (f := .glo "law") rfl)
theorem Tx.f_len (T : Tx w K mg) : mg "len" = none := by
  obtain ⟨h, a, b, c⟩ := T.kin
  exact He.free_ok a b (c.fact 52 (f := .free "len") rfl)
theorem Tx.f_int (T : Tx w K mg) : mg "int" = none := by
  obtain ⟨h, a, b, c⟩ := T.kin
  exact He.free_ok a b (c.fact 53 (f := .free "int") rfl)
theorem Tx.f_abs (T : Tx w K mg) : mg "abs" = none := by
  obtain ⟨h, a, b, c⟩ := T.kin
  exact He.free_ok a b (c.fact 54 (f := .free "abs") rfl)
theorem Tx.f_isinstance (T : Tx w K mg) : mg "isinstance" = none := by
  obtain ⟨h, a, b, c⟩ := T.kin
  exact He.free_ok a b (c.fact 55 (f := .free "isinstance") rfl)
theorem Tx.f_bool (T : Tx w K mg) : mg "bool" = none := by
  obtain ⟨h, a, b, c⟩ := T.kin
  exact He.free_ok a b (c.fact 56 (f := .free "bool") rfl)
theorem Tx.f_str (T : Tx w K mg) : mg "str" = none := by
  obtain ⟨h, a, b, c⟩ := T.kin
  exact He.free_ok a b (c.fact 57 (f := .free "str") rfl)
theorem Tx.f_tuple (T : Tx w K mg) : mg "tuple" = none := by
  obtain ⟨h, a, b, c⟩ := T.kin
  exact He.free_ok a b (c.fact 58 (f := .free "tuple") rfl)
theorem Tx.f_list (T : Tx w K mg) : mg "list" = none := by
  obtain ⟨h, a, b, c⟩ := T.kin
  exact He.free_ok a b (c.fact 59 (f := .free "list") rfl)
theorem Tx.f_sorted (T : Tx w K mg) : mg "sorted" = none := by
  obtain ⟨h, a, b, c⟩ := T.kin
  exact He.free_ok a b (c.fact 60 (f := .free "sorted") rfl)
theorem Tx.f_dict (T : Tx w K mg) : mg "dict" = none := by
  obtain ⟨h, a, b, c⟩ := T.kin
  exact He.free_ok a b (c.fact 61 (f := .free "dict") rfl)
theorem Tx.f_range (T : Tx w K mg) : mg "range" = none := by
  obtain ⟨h, a, b, c⟩ := T.kin
  exact He.free_ok a b (c.fact 62 (f := .free "range") rfl)
theorem Tx.f_enumerate (T : Tx w K mg) : mg "enumerate" = none := by
  obtain ⟨h, a, b, c⟩ := T.kin
  exact He.free_ok a b (c.fact 63 (f := .free "enumerate") rfl)
theorem Tx.f_zip (T : Tx w K mg) : mg "zip" = none := by
  obtain ⟨h, a, b, c⟩ := T.kin
  exact He.free_ok a b (c.fact 64 (f := .free "zip") rfl)
theorem Tx.f_max (T : Tx w K mg) : mg "max" = none := by
  obtain ⟨h, a, b, c⟩ := T.kin
  exact He.free_ok a b (c.fact 65 (f := .free "max") rfl)
theorem Tx.f_min (T : Tx w K mg) : mg "min" = none := by
  obtain ⟨h, a, b, c⟩ := T.kin
  exact He.free_ok a b (c.fact 66 (f := .free "min") rfl)
theorem Tx.f_all (T : Tx w K mg) : mg "all" = none := by
  obtain ⟨h, a, b, c⟩ := T.kin
  exact He.free_ok a b (c.fact 67 (f := .free "all") rfl)
theorem Tx.f_any (T : Tx w K mg) : mg "any" = none := by
  obtain ⟨h, a, b, c⟩ := T.kin
  exact He.free_ok a b (c.fact 68 (f := .free "any") rfl)
theorem Tx.f_sum (T : Tx w K mg) : mg "sum" = none := by
  obtain ⟨h, a, b, c⟩ := T.kin
  exact He.free_ok a b (c.fact 69 (f := .free "sum") rfl)
theorem Tx.f_ValueError (T : Tx w K mg) : mg "ValueError" = none := by
  obtain ⟨h, a, b, c⟩ := T.kin
  exact He.free_ok a b (c.fact 70 (f := .free "ValueError") rfl)
theorem Tx.f_super (T : Tx w K mg) : mg "super" = none := by
  obtain ⟨h, a, b, c⟩ := T.kin
  exact He.free_ok a b (c.fact 71 (f := .free "super") rfl)
theorem Tx.g_LETTERS (T : Tx w K mg) : ∃ u, mg "LETTERS" = some u ∧ RelV (.str "abcdefghijklmnopqrstuvwxyz") u := by
  obtain ⟨h, a, b, c⟩ := T.kin
  obtain ⟨t, e⟩ := He.str_ok a b (c.fact 72 (f := .str "LETTERS" "abcdefghijklmnopqrstuvwxyz") rfl)
  exact ⟨_, e, t, rfl⟩
theorem Tx.g_MOST_IN_NAME (T : Tx w K mg) : ∃ u, mg "MOST_IN_NAME" = some u ∧ RelV (.int 4) u := by
  obtain ⟨h, a, b, c⟩ := T.kin
  obtain ⟨t, e⟩ := He.int_ok a b (c.fact 73 (f := .int "MOST_IN_NAME" 4) rfl)
  exact ⟨_, e, t, rfl⟩
theorem Tx.g_WHOLE (T : Tx w K mg) : ∃ u, mg "WHOLE" = some u ∧ RelV (.int 12) u := by
  obtain ⟨h, a, b, c⟩ := T.kin
  obtain ⟨t, e⟩ := He.int_ok a b (c.fact 74 (f := .int "WHOLE" 12) rfl)
  exact ⟨_, e, t, rfl⟩
theorem Tx.g_MOST_VALUE (T : Tx w K mg) : ∃ u, mg "MOST_VALUE" = some u ∧ RelV (.int 9999) u := by
  obtain ⟨h, a, b, c⟩ := T.kin
  obtain ⟨t, e⟩ := He.int_ok a b (c.fact 75 (f := .int "MOST_VALUE" 9999) rfl)
  exact ⟨_, e, t, rfl⟩
theorem Tx.Fcls_Figure (T : Tx w K mg) : (He.Fa.cls "Figure").ok K = true := by
  obtain ⟨h, a, b, c⟩ := T.kin
  exact c.fact 76 (f := .cls "Figure") rfl
theorem Tx.Fmkr_Figure (T : Tx w K mg) : (He.Fa.mkr "Figure").ok K = true := by
  obtain ⟨h, a, b, c⟩ := T.kin
  exact c.fact 77 (f := .mkr "Figure") rfl
theorem Tx.Fkeep_Figure (T : Tx w K mg) : (He.Fa.keep "Figure").ok K = true := by
  obtain ⟨h, a, b, c⟩ := T.kin
  exact c.fact 78 (f := .keep "Figure") rfl
theorem Tx.Fnoat_Figure_names (T : Tx w K mg) : (He.Fa.noat "Figure" "names").ok K = true := by
  obtain ⟨h, a, b, c⟩ := T.kin
  exact c.fact 79 (f := .noat "Figure" "names") rfl
theorem Tx.Fnoat_Figure_at (T : Tx w K mg) : (He.Fa.noat "Figure" "at").ok K = true := by
  obtain ⟨h, a, b, c⟩ := T.kin
  exact c.fact 80 (f := .noat "Figure" "at") rfl
theorem Tx.Fnoat_Figure_outs (T : Tx w K mg) : (He.Fa.noat "Figure" "outs").ok K = true := by
  obtain ⟨h, a, b, c⟩ := T.kin
  exact c.fact 81 (f := .noat "Figure" "outs") rfl
theorem Tx.Fnoat_Figure_held (T : Tx w K mg) : (He.Fa.noat "Figure" "held").ok K = true := by
  obtain ⟨h, a, b, c⟩ := T.kin
  exact c.fact 82 (f := .noat "Figure" "held") rfl
theorem Tx.Fnoat_Figure_key (T : Tx w K mg) : (He.Fa.noat "Figure" "key").ok K = true := by
  obtain ⟨h, a, b, c⟩ := T.kin
  exact c.fact 83 (f := .noat "Figure" "key") rfl
theorem Tx.Fmeth_Figure___init__ (T : Tx w K mg) : (He.Fa.meth "Figure" "__init__").ok K = true := by
  obtain ⟨h, a, b, c⟩ := T.kin
  exact c.fact 84 (f := .meth "Figure" "__init__") rfl
theorem Tx.Fmeth_Figure___eq__ (T : Tx w K mg) : (He.Fa.meth "Figure" "__eq__").ok K = true := by
  obtain ⟨h, a, b, c⟩ := T.kin
  exact c.fact 85 (f := .meth "Figure" "__eq__") rfl
theorem Tx.Fmeth_Figure_spot (T : Tx w K mg) : (He.Fa.meth "Figure" "spot").ok K = true := by
  obtain ⟨h, a, b, c⟩ := T.kin
  exact c.fact 86 (f := .meth "Figure" "spot") rfl
theorem Tx.Fcls_Heap (T : Tx w K mg) : (He.Fa.cls "Heap").ok K = true := by
  obtain ⟨h, a, b, c⟩ := T.kin
  exact c.fact 87 (f := .cls "Heap") rfl
theorem Tx.Fmkr_Heap (T : Tx w K mg) : (He.Fa.mkr "Heap").ok K = true := by
  obtain ⟨h, a, b, c⟩ := T.kin
  exact c.fact 88 (f := .mkr "Heap") rfl
theorem Tx.Fkeep_Heap (T : Tx w K mg) : (He.Fa.keep "Heap").ok K = true := by
  obtain ⟨h, a, b, c⟩ := T.kin
  exact c.fact 89 (f := .keep "Heap") rfl
theorem Tx.Fnoat_Heap_names (T : Tx w K mg) : (He.Fa.noat "Heap" "names").ok K = true := by
  obtain ⟨h, a, b, c⟩ := T.kin
  exact c.fact 90 (f := .noat "Heap" "names") rfl
theorem Tx.Fnoat_Heap_cells (T : Tx w K mg) : (He.Fa.noat "Heap" "cells").ok K = true := by
  obtain ⟨h, a, b, c⟩ := T.kin
  exact c.fact 91 (f := .noat "Heap" "cells") rfl
theorem Tx.Fnoat_Heap__rows (T : Tx w K mg) : (He.Fa.noat "Heap" "_rows").ok K = true := by
  obtain ⟨h, a, b, c⟩ := T.kin
  exact c.fact 92 (f := .noat "Heap" "_rows") rfl
theorem Tx.Fmeth_Heap___init__ (T : Tx w K mg) : (He.Fa.meth "Heap" "__init__").ok K = true := by
  obtain ⟨h, a, b, c⟩ := T.kin
  exact c.fact 93 (f := .meth "Heap" "__init__") rfl
theorem Tx.Fmeth_Heap___eq__ (T : Tx w K mg) : (He.Fa.meth "Heap" "__eq__").ok K = true := by
  obtain ⟨h, a, b, c⟩ := T.kin
  exact c.fact 94 (f := .meth "Heap" "__eq__") rfl
theorem Tx.Fmeth_Heap___add__ (T : Tx w K mg) : (He.Fa.meth "Heap" "__add__").ok K = true := by
  obtain ⟨h, a, b, c⟩ := T.kin
  exact c.fact 95 (f := .meth "Heap" "__add__") rfl
theorem Tx.Fmeth_Heap___sub__ (T : Tx w K mg) : (He.Fa.meth "Heap" "__sub__").ok K = true := by
  obtain ⟨h, a, b, c⟩ := T.kin
  exact c.fact 96 (f := .meth "Heap" "__sub__") rfl
theorem Tx.Fmeth_Heap_value (T : Tx w K mg) : (He.Fa.meth "Heap" "value").ok K = true := by
  obtain ⟨h, a, b, c⟩ := T.kin
  exact c.fact 97 (f := .meth "Heap" "value") rfl
theorem Tx.Fmeth_Heap_cell (T : Tx w K mg) : (He.Fa.meth "Heap" "cell").ok K = true := by
  obtain ⟨h, a, b, c⟩ := T.kin
  exact c.fact 98 (f := .meth "Heap" "cell") rfl
theorem Tx.Fmeth_Heap_with_name (T : Tx w K mg) : (He.Fa.meth "Heap" "with_name").ok K = true := by
  obtain ⟨h, a, b, c⟩ := T.kin
  exact c.fact 99 (f := .meth "Heap" "with_name") rfl
theorem Tx.Fmeth_Heap_without_name (T : Tx w K mg) : (He.Fa.meth "Heap" "without_name").ok K = true := by
  obtain ⟨h, a, b, c⟩ := T.kin
  exact c.fact 100 (f := .meth "Heap" "without_name") rfl
theorem Tx.Fexm_HeapError_HeapError_true (T : Tx w K mg) : (He.Fa.exm "HeapError" "HeapError" true).ok K = true := by
  obtain ⟨h, a, b, c⟩ := T.kin
  exact c.fact 101 (f := .exm "HeapError" "HeapError" true) rfl
theorem Tx.Fexc_HeapError (T : Tx w K mg) : (He.Fa.exc "HeapError").ok K = true := by
  obtain ⟨h, a, b, c⟩ := T.kin
  exact c.fact 102 (f := .exc "HeapError") rfl
theorem Tx.Fexm_BadHeap_HeapError_true (T : Tx w K mg) : (He.Fa.exm "BadHeap" "HeapError" true).ok K = true := by
  obtain ⟨h, a, b, c⟩ := T.kin
  exact c.fact 103 (f := .exm "BadHeap" "HeapError" true) rfl
theorem Tx.Fexm_NoName_HeapError_true (T : Tx w K mg) : (He.Fa.exm "NoName" "HeapError" true).ok K = true := by
  obtain ⟨h, a, b, c⟩ := T.kin
  exact c.fact 104 (f := .exm "NoName" "HeapError" true) rfl
theorem Tx.Fexm_OtherNames_HeapError_true (T : Tx w K mg) : (He.Fa.exm "OtherNames" "HeapError" true).ok K = true := by
  obtain ⟨h, a, b, c⟩ := T.kin
  exact c.fact 105 (f := .exm "OtherNames" "HeapError" true) rfl
theorem Tx.Fexc_OtherNames (T : Tx w K mg) : (He.Fa.exc "OtherNames").ok K = true := by
  obtain ⟨h, a, b, c⟩ := T.kin
  exact c.fact 106 (f := .exc "OtherNames") rfl
theorem Tx.Fexm_Clash_HeapError_true (T : Tx w K mg) : (He.Fa.exm "Clash" "HeapError" true).ok K = true := by
  obtain ⟨h, a, b, c⟩ := T.kin
  exact c.fact 107 (f := .exm "Clash" "HeapError" true) rfl
theorem Tx.Fexm_NotInHeap_HeapError_true (T : Tx w K mg) : (He.Fa.exm "NotInHeap" "HeapError" true).ok K = true := by
  obtain ⟨h, a, b, c⟩ := T.kin
  exact c.fact 108 (f := .exm "NotInHeap" "HeapError" true) rfl
theorem Tx.Fexm_Lost_HeapError_true (T : Tx w K mg) : (He.Fa.exm "Lost" "HeapError" true).ok K = true := by
  obtain ⟨h, a, b, c⟩ := T.kin
  exact c.fact 109 (f := .exm "Lost" "HeapError" true) rfl
theorem Tx.Fexm_BadFigure_HeapError_true (T : Tx w K mg) : (He.Fa.exm "BadFigure" "HeapError" true).ok K = true := by
  obtain ⟨h, a, b, c⟩ := T.kin
  exact c.fact 110 (f := .exm "BadFigure" "HeapError" true) rfl
theorem Tx.cls_Figure (T : Tx w K mg) : Cls K (He.ga K "Figure") := He.cls_ok T.Fcls_Figure
theorem Tx.mk_Figure (T : Tx w K mg) : Mk K (He.ga K "Figure") (He.ma K (He.ga K "Figure") "__init__") := He.mkr_ok T.Fmkr_Figure
theorem Tx.no_Figure_names (T : Tx w K mg) : NoAttr K (He.ga K "Figure") "names" := He.noat_ok T.Fnoat_Figure_names
theorem Tx.no_Figure_at (T : Tx w K mg) : NoAttr K (He.ga K "Figure") "at" := He.noat_ok T.Fnoat_Figure_at
theorem Tx.no_Figure_outs (T : Tx w K mg) : NoAttr K (He.ga K "Figure") "outs" := He.noat_ok T.Fnoat_Figure_outs
theorem Tx.no_Figure_held (T : Tx w K mg) : NoAttr K (He.ga K "Figure") "held" := He.noat_ok T.Fnoat_Figure_held
theorem Tx.no_Figure_key (T : Tx w K mg) : NoAttr K (He.ga K "Figure") "key" := He.noat_ok T.Fnoat_Figure_key
theorem Tx.me_Figure___init__ (T : Tx w K mg) : Meth K (He.ga K "Figure") "__init__" (He.ma K (He.ga K "Figure") "__init__") := He.meth_ok T.Fmeth_Figure___init__
theorem Tx.me_Figure___eq__ (T : Tx w K mg) : Meth K (He.ga K "Figure") "__eq__" (He.ma K (He.ga K "Figure") "__eq__") := He.meth_ok T.Fmeth_Figure___eq__
theorem Tx.me_Figure_spot (T : Tx w K mg) : Meth K (He.ga K "Figure") "spot" (He.ma K (He.ga K "Figure") "spot") := He.meth_ok T.Fmeth_Figure_spot
theorem Tx.cls_Heap (T : Tx w K mg) : Cls K (He.ga K "Heap") := He.cls_ok T.Fcls_Heap
theorem Tx.mk_Heap (T : Tx w K mg) : Mk K (He.ga K "Heap") (He.ma K (He.ga K "Heap") "__init__") := He.mkr_ok T.Fmkr_Heap
theorem Tx.no_Heap_names (T : Tx w K mg) : NoAttr K (He.ga K "Heap") "names" := He.noat_ok T.Fnoat_Heap_names
theorem Tx.no_Heap_cells (T : Tx w K mg) : NoAttr K (He.ga K "Heap") "cells" := He.noat_ok T.Fnoat_Heap_cells
theorem Tx.no_Heap__rows (T : Tx w K mg) : NoAttr K (He.ga K "Heap") "_rows" := He.noat_ok T.Fnoat_Heap__rows
theorem Tx.me_Heap___init__ (T : Tx w K mg) : Meth K (He.ga K "Heap") "__init__" (He.ma K (He.ga K "Heap") "__init__") := He.meth_ok T.Fmeth_Heap___init__
theorem Tx.me_Heap___eq__ (T : Tx w K mg) : Meth K (He.ga K "Heap") "__eq__" (He.ma K (He.ga K "Heap") "__eq__") := He.meth_ok T.Fmeth_Heap___eq__
theorem Tx.me_Heap___add__ (T : Tx w K mg) : Meth K (He.ga K "Heap") "__add__" (He.ma K (He.ga K "Heap") "__add__") := He.meth_ok T.Fmeth_Heap___add__
theorem Tx.me_Heap___sub__ (T : Tx w K mg) : Meth K (He.ga K "Heap") "__sub__" (He.ma K (He.ga K "Heap") "__sub__") := He.meth_ok T.Fmeth_Heap___sub__
theorem Tx.me_Heap_value (T : Tx w K mg) : Meth K (He.ga K "Heap") "value" (He.ma K (He.ga K "Heap") "value") := He.meth_ok T.Fmeth_Heap_value
theorem Tx.me_Heap_cell (T : Tx w K mg) : Meth K (He.ga K "Heap") "cell" (He.ma K (He.ga K "Heap") "cell") := He.meth_ok T.Fmeth_Heap_cell
theorem Tx.me_Heap_with_name (T : Tx w K mg) : Meth K (He.ga K "Heap") "with_name" (He.ma K (He.ga K "Heap") "with_name") := He.meth_ok T.Fmeth_Heap_with_name
theorem Tx.me_Heap_without_name (T : Tx w K mg) : Meth K (He.ga K "Heap") "without_name" (He.ma K (He.ga K "Heap") "without_name") := He.meth_ok T.Fmeth_Heap_without_name
theorem Tx.D_has_letters_only (T : Tx w K mg) : ∃ fd, FunD K "has_letters_only" "has_letters_only" (defArgs s_has_letters_only) (defBody s_has_letters_only) (defScope s_has_letters_only) [] [] (He.fAd K ("has_letters_only", none)) fd := by
  obtain ⟨h, a, b, c⟩ := T.kin
  exact c.def_ 0 (d := d_has_letters_only) rfl
theorem Tx.D_is_name (T : Tx w K mg) : ∃ fd, FunD K "is_name" "is_name" (defArgs s_is_name) (defBody s_is_name) (defScope s_is_name) [] [] (He.fAd K ("is_name", none)) fd := by
  obtain ⟨h, a, b, c⟩ := T.kin
  exact c.def_ 1 (d := d_is_name) rfl
theorem Tx.D_Figure_init (T : Tx w K mg) : ∃ fd, FunD K "__init__" "Figure.__init__" (defArgs s_Figure_init) (defBody s_Figure_init) (defScope s_Figure_init) [] [] (He.fAd K ("Figure", some "__init__")) fd := by
  obtain ⟨h, a, b, c⟩ := T.kin
  exact c.def_ 2 (d := d_Figure_init) rfl
theorem Tx.D_Figure_eq (T : Tx w K mg) : ∃ fd, FunD K "__eq__" "Figure.__eq__" (defArgs s_Figure_eq) (defBody s_Figure_eq) (defScope s_Figure_eq) [] [] (He.fAd K ("Figure", some "__eq__")) fd := by
  obtain ⟨h, a, b, c⟩ := T.kin
  exact c.def_ 3 (d := d_Figure_eq) rfl
theorem Tx.D_Figure_spot (T : Tx w K mg) : ∃ fd, FunD K "spot" "Figure.spot" (defArgs s_Figure_spot) (defBody s_Figure_spot) (defScope s_Figure_spot) [] [] (He.fAd K ("Figure", some "spot")) fd := by
  obtain ⟨h, a, b, c⟩ := T.kin
  exact c.def_ 4 (d := d_Figure_spot) rfl
theorem Tx.D_figure_from (T : Tx w K mg) : ∃ fd, FunD K "figure_from" "figure_from" (defArgs s_figure_from) (defBody s_figure_from) (defScope s_figure_from) [] [] (He.fAd K ("figure_from", none)) fd := by
  obtain ⟨h, a, b, c⟩ := T.kin
  exact c.def_ 5 (d := d_figure_from) rfl
theorem Tx.D_outs_as_tuples (T : Tx w K mg) : ∃ fd, FunD K "outs_as_tuples" "outs_as_tuples" (defArgs s_outs_as_tuples) (defBody s_outs_as_tuples) (defScope s_outs_as_tuples) [] [] (He.fAd K ("outs_as_tuples", none)) fd := by
  obtain ⟨h, a, b, c⟩ := T.kin
  exact c.def_ 6 (d := d_outs_as_tuples) rfl
theorem Tx.D_held_spots (T : Tx w K mg) : ∃ fd, FunD K "held_spots" "held_spots" (defArgs s_held_spots) (defBody s_held_spots) (defScope s_held_spots) [] [] (He.fAd K ("held_spots", none)) fd := by
  obtain ⟨h, a, b, c⟩ := T.kin
  exact c.def_ 7 (d := d_held_spots) rfl
theorem Tx.D_figure_key (T : Tx w K mg) : ∃ fd, FunD K "figure_key" "figure_key" (defArgs s_figure_key) (defBody s_figure_key) (defScope s_figure_key) [] [] (He.fAd K ("figure_key", none)) fd := by
  obtain ⟨h, a, b, c⟩ := T.kin
  exact c.def_ 8 (d := d_figure_key) rfl
theorem Tx.D_names_ascend (T : Tx w K mg) : ∃ fd, FunD K "names_ascend" "names_ascend" (defArgs s_names_ascend) (defBody s_names_ascend) (defScope s_names_ascend) [] [] (He.fAd K ("names_ascend", none)) fd := by
  obtain ⟨h, a, b, c⟩ := T.kin
  exact c.def_ 9 (d := d_names_ascend) rfl
theorem Tx.D_names_have_spots (T : Tx w K mg) : ∃ fd, FunD K "names_have_spots" "names_have_spots" (defArgs s_names_have_spots) (defBody s_names_have_spots) (defScope s_names_have_spots) [] [] (He.fAd K ("names_have_spots", none)) fd := by
  obtain ⟨h, a, b, c⟩ := T.kin
  exact c.def_ 10 (d := d_names_have_spots) rfl
theorem Tx.D_outs_lead_to_spots (T : Tx w K mg) : ∃ fd, FunD K "outs_lead_to_spots" "outs_lead_to_spots" (defArgs s_outs_lead_to_spots) (defBody s_outs_lead_to_spots) (defScope s_outs_lead_to_spots) [] [] (He.fAd K ("outs_lead_to_spots", none)) fd := by
  obtain ⟨h, a, b, c⟩ := T.kin
  exact c.def_ 11 (d := d_outs_lead_to_spots) rfl
theorem Tx.D_spots_are_numbered (T : Tx w K mg) : ∃ fd, FunD K "spots_are_numbered" "spots_are_numbered" (defArgs s_spots_are_numbered) (defBody s_spots_are_numbered) (defScope s_spots_are_numbered) [] [] (He.fAd K ("spots_are_numbered", none)) fd := by
  obtain ⟨h, a, b, c⟩ := T.kin
  exact c.def_ 12 (d := d_spots_are_numbered) rfl
theorem Tx.D_has_plain_spot (T : Tx w K mg) : ∃ fd, FunD K "has_plain_spot" "has_plain_spot" (defArgs s_has_plain_spot) (defBody s_has_plain_spot) (defScope s_has_plain_spot) [] [] (He.fAd K ("has_plain_spot", none)) fd := by
  obtain ⟨h, a, b, c⟩ := T.kin
  exact c.def_ 13 (d := d_has_plain_spot) rfl
theorem Tx.D_Heap_init (T : Tx w K mg) : ∃ fd, FunD K "__init__" "Heap.__init__" (defArgs s_Heap_init) (defBody s_Heap_init) (defScope s_Heap_init) [] [] (He.fAd K ("Heap", some "__init__")) fd := by
  obtain ⟨h, a, b, c⟩ := T.kin
  exact c.def_ 14 (d := d_Heap_init) rfl
theorem Tx.D_Heap_eq (T : Tx w K mg) : ∃ fd, FunD K "__eq__" "Heap.__eq__" (defArgs s_Heap_eq) (defBody s_Heap_eq) (defScope s_Heap_eq) [] [] (He.fAd K ("Heap", some "__eq__")) fd := by
  obtain ⟨h, a, b, c⟩ := T.kin
  exact c.def_ 15 (d := d_Heap_eq) rfl
theorem Tx.D_Heap_add (T : Tx w K mg) : ∃ fd, FunD K "__add__" "Heap.__add__" (defArgs s_Heap_add) (defBody s_Heap_add) (defScope s_Heap_add) [] [] (He.fAd K ("Heap", some "__add__")) fd := by
  obtain ⟨h, a, b, c⟩ := T.kin
  exact c.def_ 16 (d := d_Heap_add) rfl
theorem Tx.D_Heap_sub (T : Tx w K mg) : ∃ fd, FunD K "__sub__" "Heap.__sub__" (defArgs s_Heap_sub) (defBody s_Heap_sub) (defScope s_Heap_sub) [] [] (He.fAd K ("Heap", some "__sub__")) fd := by
  obtain ⟨h, a, b, c⟩ := T.kin
  exact c.def_ 17 (d := d_Heap_sub) rfl
theorem Tx.D_Heap_value (T : Tx w K mg) : ∃ fd, FunD K "value" "Heap.value" (defArgs s_Heap_value) (defBody s_Heap_value) (defScope s_Heap_value) [] [] (He.fAd K ("Heap", some "value")) fd := by
  obtain ⟨h, a, b, c⟩ := T.kin
  exact c.def_ 18 (d := d_Heap_value) rfl
theorem Tx.D_Heap_cell (T : Tx w K mg) : ∃ fd, FunD K "cell" "Heap.cell" (defArgs s_Heap_cell) (defBody s_Heap_cell) (defScope s_Heap_cell) [] [] (He.fAd K ("Heap", some "cell")) fd := by
  obtain ⟨h, a, b, c⟩ := T.kin
  exact c.def_ 19 (d := d_Heap_cell) rfl
theorem Tx.D_Heap_with_name (T : Tx w K mg) : ∃ fd, FunD K "with_name" "Heap.with_name" (defArgs s_Heap_with_name) (defBody s_Heap_with_name) (defScope s_Heap_with_name) [] [] (He.fAd K ("Heap", some "with_name")) fd := by
  obtain ⟨h, a, b, c⟩ := T.kin
  exact c.def_ 20 (d := d_Heap_with_name) rfl
theorem Tx.D_Heap_without_name (T : Tx w K mg) : ∃ fd, FunD K "without_name" "Heap.without_name" (defArgs s_Heap_without_name) (defBody s_Heap_without_name) (defScope s_Heap_without_name) [] [] (He.fAd K ("Heap", some "without_name")) fd := by
  obtain ⟨h, a, b, c⟩ := T.kin
  exact c.def_ 21 (d := d_Heap_without_name) rfl
theorem Tx.D_heap_names (T : Tx w K mg) : ∃ fd, FunD K "heap_names" "heap_names" (defArgs s_heap_names) (defBody s_heap_names) (defScope s_heap_names) [] [] (He.fAd K ("heap_names", none)) fd := by
  obtain ⟨h, a, b, c⟩ := T.kin
  exact c.def_ 22 (d := d_heap_names) rfl
theorem Tx.D_heap_cells (T : Tx w K mg) : ∃ fd, FunD K "heap_cells" "heap_cells" (defArgs s_heap_cells) (defBody s_heap_cells) (defScope s_heap_cells) [] [] (He.fAd K ("heap_cells", none)) fd := by
  obtain ⟨h, a, b, c⟩ := T.kin
  exact c.def_ 23 (d := d_heap_cells) rfl
theorem Tx.D_heap_from (T : Tx w K mg) : ∃ fd, FunD K "heap_from" "heap_from" (defArgs s_heap_from) (defBody s_heap_from) (defScope s_heap_from) [] [] (He.fAd K ("heap_from", none)) fd := by
  obtain ⟨h, a, b, c⟩ := T.kin
  exact c.def_ 24 (d := d_heap_from) rfl
theorem Tx.D_address_outside (T : Tx w K mg) : ∃ fd, FunD K "address_outside" "address_outside" (defArgs s_address_outside) (defBody s_address_outside) (defScope s_address_outside) [] [] (He.fAd K ("address_outside", none)) fd := by
  obtain ⟨h, a, b, c⟩ := T.kin
  exact c.def_ 25 (d := d_address_outside) rfl
theorem Tx.D_heap_of_both (T : Tx w K mg) : ∃ fd, FunD K "heap_of_both" "heap_of_both" (defArgs s_heap_of_both) (defBody s_heap_of_both) (defScope s_heap_of_both) [] [] (He.fAd K ("heap_of_both", none)) fd := by
  obtain ⟨h, a, b, c⟩ := T.kin
  exact c.def_ 26 (d := d_heap_of_both) rfl
theorem Tx.D_lost_cells (T : Tx w K mg) : ∃ fd, FunD K "lost_cells" "lost_cells" (defArgs s_lost_cells) (defBody s_lost_cells) (defScope s_lost_cells) [] [] (He.fAd K ("lost_cells", none)) fd := by
  obtain ⟨h, a, b, c⟩ := T.kin
  exact c.def_ 27 (d := d_lost_cells) rfl
theorem Tx.D_written (T : Tx w K mg) : ∃ fd, FunD K "written" "written" (defArgs s_written) (defBody s_written) (defScope s_written) [] [] (He.fAd K ("written", none)) fd := by
  obtain ⟨h, a, b, c⟩ := T.kin
  exact c.def_ 28 (d := d_written) rfl
theorem Tx.D_plain_cells (T : Tx w K mg) : ∃ fd, FunD K "plain_cells" "plain_cells" (defArgs s_plain_cells) (defBody s_plain_cells) (defScope s_plain_cells) [] [] (He.fAd K ("plain_cells", none)) fd := by
  obtain ⟨h, a, b, c⟩ := T.kin
  exact c.def_ 29 (d := d_plain_cells) rfl
theorem Tx.D_segment_word (T : Tx w K mg) : ∃ fd, FunD K "segment_word" "segment_word" (defArgs s_segment_word) (defBody s_segment_word) (defScope s_segment_word) [] [] (He.fAd K ("segment_word", none)) fd := by
  obtain ⟨h, a, b, c⟩ := T.kin
  exact c.def_ 30 (d := d_segment_word) rfl
theorem Tx.D_alike (T : Tx w K mg) : ∃ fd, FunD K "alike" "alike" (defArgs s_alike) (defBody s_alike) (defScope s_alike) [] [] (He.fAd K ("alike", none)) fd := by
  obtain ⟨h, a, b, c⟩ := T.kin
  exact c.def_ 31 (d := d_alike) rfl
theorem Tx.D_l_pool (T : Tx w K mg) : ∃ fd, FunD K "_law_pool" "_law_pool" (defArgs s_l_pool) (defBody s_l_pool) (defScope s_l_pool) [] [] (He.fAd K ("_law_pool", none)) fd := by
  obtain ⟨h, a, b, c⟩ := T.kin
  exact c.def_ 32 (d := d_l_pool) rfl
theorem Tx.D_l_draw (T : Tx w K mg) : ∃ fd, FunD K "_law_draw" "_law_draw" (defArgs s_l_draw) (defBody s_l_draw) (defScope s_l_draw) [] [] (He.fAd K ("_law_draw", none)) fd := by
  obtain ⟨h, a, b, c⟩ := T.kin
  exact c.def_ 33 (d := d_l_draw) rfl
theorem Tx.D_l_sort (T : Tx w K mg) : ∃ fd, FunD K "_law_sort" "_law_sort" (defArgs s_l_sort) (defBody s_l_sort) (defScope s_l_sort) [] [] (He.fAd K ("_law_sort", none)) fd := by
  obtain ⟨h, a, b, c⟩ := T.kin
  exact c.def_ 34 (d := d_l_sort) rfl
theorem Tx.D_l_same (T : Tx w K mg) : ∃ fd, FunD K "_law_same" "_law_same" (defArgs s_l_same) (defBody s_l_same) (defScope s_l_same) [] [] (He.fAd K ("_law_same", none)) fd := by
  obtain ⟨h, a, b, c⟩ := T.kin
  exact c.def_ 35 (d := d_l_same) rfl
theorem Tx.D_l_names (T : Tx w K mg) : ∃ fd, FunD K "_law_names" "_law_names" (defArgs s_l_names) (defBody s_l_names) (defScope s_l_names) [] [] (He.fAd K ("_law_names", none)) fd := by
  obtain ⟨h, a, b, c⟩ := T.kin
  exact c.def_ 36 (d := d_l_names) rfl
theorem Tx.D_l_places (T : Tx w K mg) : ∃ fd, FunD K "_law_places" "_law_places" (defArgs s_l_places) (defBody s_l_places) (defScope s_l_places) [] [] (He.fAd K ("_law_places", none)) fd := by
  obtain ⟨h, a, b, c⟩ := T.kin
  exact c.def_ 37 (d := d_l_places) rfl
theorem Tx.D_l_due (T : Tx w K mg) : ∃ fd, FunD K "_law_due" "_law_due" (defArgs s_l_due) (defBody s_l_due) (defScope s_l_due) [] [] (He.fAd K ("_law_due", none)) fd := by
  obtain ⟨h, a, b, c⟩ := T.kin
  exact c.def_ 38 (d := d_l_due) rfl
theorem Tx.D_l_heap (T : Tx w K mg) : ∃ fd, FunD K "_law_heap" "_law_heap" (defArgs s_l_heap) (defBody s_l_heap) (defScope s_l_heap) [] [] (He.fAd K ("_law_heap", none)) fd := by
  obtain ⟨h, a, b, c⟩ := T.kin
  exact c.def_ 39 (d := d_l_heap) rfl
theorem Tx.D_l_drawn (T : Tx w K mg) : ∃ fd, FunD K "_law_drawn" "_law_drawn" (defArgs s_l_drawn) (defBody s_l_drawn) (defScope s_l_drawn) [] [] (He.fAd K ("_law_drawn", none)) fd := by
  obtain ⟨h, a, b, c⟩ := T.kin
  exact c.def_ 40 (d := d_l_drawn) rfl
theorem Tx.D_l_made (T : Tx w K mg) : ∃ fd, FunD K "_law_made" "_law_made" (defArgs s_l_made) (defBody s_l_made) (defScope s_l_made) [] [] (He.fAd K ("_law_made", none)) fd := by
  obtain ⟨h, a, b, c⟩ := T.kin
  exact c.def_ 41 (d := d_l_made) rfl
theorem Tx.D_l_lost (T : Tx w K mg) : ∃ fd, FunD K "_law_lost" "_law_lost" (defArgs s_l_lost) (defBody s_l_lost) (defScope s_l_lost) [] [] (He.fAd K ("_law_lost", none)) fd := by
  obtain ⟨h, a, b, c⟩ := T.kin
  exact c.def_ 42 (d := d_l_lost) rfl
theorem Tx.D_l_kept (T : Tx w K mg) : ∃ fd, FunD K "_law_kept" "_law_kept" (defArgs s_l_kept) (defBody s_l_kept) (defScope s_l_kept) [] [] (He.fAd K ("_law_kept", none)) fd := by
  obtain ⟨h, a, b, c⟩ := T.kin
  exact c.def_ 43 (d := d_l_kept) rfl
theorem Tx.D_l_moved (T : Tx w K mg) : ∃ fd, FunD K "_law_moved" "_law_moved" (defArgs s_l_moved) (defBody s_l_moved) (defScope s_l_moved) [] [] (He.fAd K ("_law_moved", none)) fd := by
  obtain ⟨h, a, b, c⟩ := T.kin
  exact c.def_ 44 (d := d_l_moved) rfl
theorem Tx.D_l_alike (T : Tx w K mg) : ∃ fd, FunD K "_law_alike" "_law_alike" (defArgs s_l_alike) (defBody s_l_alike) (defScope s_l_alike) [] [] (He.fAd K ("_law_alike", none)) fd := by
  obtain ⟨h, a, b, c⟩ := T.kin
  exact c.def_ 45 (d := d_l_alike) rfl
theorem Tx.D_l_bent (T : Tx w K mg) : ∃ fd, FunD K "_law_bent" "_law_bent" (defArgs s_l_bent) (defBody s_l_bent) (defScope s_l_bent) [] [] (He.fAd K ("_law_bent", none)) fd := by
  obtain ⟨h, a, b, c⟩ := T.kin
  exact c.def_ 46 (d := d_l_bent) rfl
theorem Tx.D_l_pair (T : Tx w K mg) : ∃ fd, FunD K "_law_pair" "_law_pair" (defArgs s_l_pair) (defBody s_l_pair) (defScope s_l_pair) [] [] (He.fAd K ("_law_pair", none)) fd := by
  obtain ⟨h, a, b, c⟩ := T.kin
  exact c.def_ 47 (d := d_l_pair) rfl
theorem Tx.D_l_refuses (T : Tx w K mg) : ∃ fd, FunD K "_law_refuses" "_law_refuses" (defArgs s_l_refuses) (defBody s_l_refuses) (defScope s_l_refuses) [] [] (He.fAd K ("_law_refuses", none)) fd := by
  obtain ⟨h, a, b, c⟩ := T.kin
  exact c.def_ 48 (d := d_l_refuses) rfl
theorem Tx.D_l_far (T : Tx w K mg) : ∃ fd, FunD K "_law_far" "_law_far" (defArgs s_l_far) (defBody s_l_far) (defScope s_l_far) [] [] (He.fAd K ("_law_far", none)) fd := by
  obtain ⟨h, a, b, c⟩ := T.kin
  exact c.def_ 49 (d := d_l_far) rfl
theorem Tx.D_law (T : Tx w K mg) : ∃ fd, FunD K "law" "law" (defArgs s_law) (defBody s_law) (defScope s_law) [] [] (He.fAd K ("law", none)) fd := by
  obtain ⟨h, a, b, c⟩ := T.kin
  exact c.def_ 50 (d := d_law) rfl
theorem Tx.t_NOT_NAMES (T : Tx w K mg) (H : Hp) : SqT K H (He.ga K "NOT_NAMES") (([.str "nil", .str "some", .str "or", .str "any", .str "cell", .str "row", .str "proc", .str "if", .str "else", .str "end", .str "free", .str "new", .str "link", .str "mark", .str "drop"] : List He.Dv).map (He.Dv.v K)) := by
  obtain ⟨h, a, b, c⟩ := T.ex
  exact He.tupB_ok (He.ba c.more).1 H
theorem Tx.t_MARKS_OF_CELLS (T : Tx w K mg) (H : Hp) : SqT K H (He.ga K "MARKS_OF_CELLS") (([.str "a", .str "b", .str "c"] : List He.Dv).map (He.Dv.v K)) := by
  obtain ⟨h, a, b, c⟩ := T.ex
  exact He.tupB_ok (He.ba c.more).2 H
theorem sc_has_letters_only : FnScope ["text", "most", "letter"] ["text", "most"] (defScope s_has_letters_only) := ⟨rfl, rfl, rfl, by decide +kernel, rfl, by decide +kernel, by decide +kernel⟩
theorem sc_is_name : FnScope ["text"] ["text"] (defScope s_is_name) := ⟨rfl, rfl, rfl, by decide +kernel, rfl, by decide +kernel, by decide +kernel⟩
theorem sc_Figure_init : FnScope ["self", "names", "at", "outs"] ["self", "names", "at", "outs"] (defScope s_Figure_init) := ⟨rfl, rfl, rfl, by decide +kernel, rfl, by decide +kernel, by decide +kernel⟩
theorem sc_Figure_eq : FnScope ["self", "other"] ["self", "other"] (defScope s_Figure_eq) := ⟨rfl, rfl, rfl, by decide +kernel, rfl, by decide +kernel, by decide +kernel⟩
theorem sc_Figure_spot : FnScope ["self", "name", "known", "number"] ["self", "name"] (defScope s_Figure_spot) := ⟨rfl, rfl, rfl, by decide +kernel, rfl, by decide +kernel, by decide +kernel⟩
theorem sc_figure_from : FnScope ["names", "at", "outs", "figure"] ["names", "at", "outs"] (defScope s_figure_from) := ⟨rfl, rfl, rfl, by decide +kernel, rfl, by decide +kernel, by decide +kernel⟩
theorem sc_outs_as_tuples : FnScope ["outs", "out"] ["outs"] (defScope s_outs_as_tuples) := ⟨rfl, rfl, rfl, by decide +kernel, rfl, by decide +kernel, by decide +kernel⟩
theorem sc_held_spots : FnScope ["outs", "spot", "out"] ["outs"] (defScope s_held_spots) := ⟨rfl, rfl, rfl, by decide +kernel, rfl, by decide +kernel, by decide +kernel⟩
theorem sc_figure_key : FnScope ["at", "outs", "pairs", "out", "pair", "number"] ["at", "outs"] (defScope s_figure_key) := ⟨rfl, rfl, rfl, by decide +kernel, rfl, by decide +kernel, by decide +kernel⟩
theorem sc_names_ascend : FnScope ["names", "at", "name"] ["names"] (defScope s_names_ascend) := ⟨rfl, rfl, rfl, by decide +kernel, rfl, by decide +kernel, by decide +kernel⟩
theorem sc_names_have_spots : FnScope ["names", "at", "outs", "spot"] ["names", "at", "outs"] (defScope s_names_have_spots) := ⟨rfl, rfl, rfl, by decide +kernel, rfl, by decide +kernel, by decide +kernel⟩
theorem sc_outs_lead_to_spots : FnScope ["outs", "pairs", "out", "goal", "share"] ["outs"] (defScope s_outs_lead_to_spots) := ⟨rfl, rfl, rfl, by decide +kernel, rfl, by decide +kernel, by decide +kernel⟩
theorem sc_spots_are_numbered : FnScope ["at", "outs", "known", "spot", "visited", "out"] ["at", "outs"] (defScope s_spots_are_numbered) := ⟨rfl, rfl, rfl, by decide +kernel, rfl, by decide +kernel, by decide +kernel⟩
theorem sc_has_plain_spot : FnScope ["at", "outs", "pairs", "out", "spot", "shares", "goal", "share"] ["at", "outs"] (defScope s_has_plain_spot) := ⟨rfl, rfl, rfl, by decide +kernel, rfl, by decide +kernel, by decide +kernel⟩
theorem sc_Heap_init : FnScope ["self", "names", "cells", "cell"] ["self", "names", "cells"] (defScope s_Heap_init) := ⟨rfl, rfl, rfl, by decide +kernel, rfl, by decide +kernel, by decide +kernel⟩
theorem sc_Heap_eq : FnScope ["self", "other"] ["self", "other"] (defScope s_Heap_eq) := ⟨rfl, rfl, rfl, by decide +kernel, rfl, by decide +kernel, by decide +kernel⟩
theorem sc_Heap_add : FnScope ["self", "other"] ["self", "other"] (defScope s_Heap_add) := ⟨rfl, rfl, rfl, by decide +kernel, rfl, by decide +kernel, by decide +kernel⟩
theorem sc_Heap_sub : FnScope ["self", "other", "outside", "cells", "address", "mark", "link", "share", "taken", "left"] ["self", "other"] (defScope s_Heap_sub) := ⟨rfl, rfl, rfl, by decide +kernel, rfl, by decide +kernel, by decide +kernel⟩
theorem sc_Heap_size : FnScope ["self"] ["self"] (defScope s_Heap_size) := ⟨rfl, rfl, rfl, by decide +kernel, rfl, by decide +kernel, by decide +kernel⟩
theorem sc_Heap_value : FnScope ["self", "name", "known", "number"] ["self", "name"] (defScope s_Heap_value) := ⟨rfl, rfl, rfl, by decide +kernel, rfl, by decide +kernel, by decide +kernel⟩
theorem sc_Heap_cell : FnScope ["self", "address"] ["self", "address"] (defScope s_Heap_cell) := ⟨rfl, rfl, rfl, by decide +kernel, rfl, by decide +kernel, by decide +kernel⟩
theorem sc_Heap_with_name : FnScope ["self", "name", "number"] ["self", "name", "number"] (defScope s_Heap_with_name) := ⟨rfl, rfl, rfl, by decide +kernel, rfl, by decide +kernel, by decide +kernel⟩
theorem sc_Heap_without_name : FnScope ["self", "name"] ["self", "name"] (defScope s_Heap_without_name) := ⟨rfl, rfl, rfl, by decide +kernel, rfl, by decide +kernel, by decide +kernel⟩
theorem sc_heap_names : FnScope ["names", "known", "at", "name", "number"] ["names"] (defScope s_heap_names) := ⟨rfl, rfl, rfl, by decide +kernel, rfl, by decide +kernel, by decide +kernel⟩
theorem sc_heap_cells : FnScope ["cells", "known", "at", "address", "mark", "link", "share"] ["cells"] (defScope s_heap_cells) := ⟨rfl, rfl, rfl, by decide +kernel, rfl, by decide +kernel, by decide +kernel⟩
theorem sc_heap_from : FnScope ["names", "cells", "heap", "cell"] ["names", "cells"] (defScope s_heap_from) := ⟨rfl, rfl, rfl, by decide +kernel, rfl, by decide +kernel, by decide +kernel⟩
theorem sc_address_outside : FnScope ["part", "heap", "address", "mark", "link", "share", "row"] ["part", "heap"] (defScope s_address_outside) := ⟨rfl, rfl, rfl, by decide +kernel, rfl, by decide +kernel, by decide +kernel⟩
theorem sc_heap_of_both : FnScope ["heap", "other", "adding", "more", "cell", "cells", "address", "first", "second", "mark", "link", "share"] ["heap", "other", "adding"] (defScope s_heap_of_both) := ⟨rfl, rfl, rfl, by decide +kernel, rfl, by decide +kernel, by decide +kernel⟩
theorem sc_lost_cells : FnScope ["heap", "reached", "pair", "at", "cell"] ["heap"] (defScope s_lost_cells) := ⟨rfl, rfl, rfl, by decide +kernel, rfl, by decide +kernel, by decide +kernel⟩
theorem sc_written : FnScope ["heap", "lost", "plain", "spots", "numbers", "name", "number", "outs", "words", "spot", "cell", "word", "goal", "at"] ["heap"] (defScope s_written) := ⟨rfl, rfl, rfl, by decide +kernel, rfl, by decide +kernel, by decide +kernel⟩
theorem sc_plain_cells : FnScope ["heap", "shares", "address", "mark", "link", "share", "named", "name", "number", "plain"] ["heap"] (defScope s_plain_cells) := ⟨rfl, rfl, rfl, by decide +kernel, rfl, by decide +kernel, by decide +kernel⟩
theorem sc_segment_word : FnScope ["heap", "spot", "plain", "cell", "marks"] ["heap", "spot", "plain"] (defScope s_segment_word) := ⟨rfl, rfl, rfl, by decide +kernel, rfl, by decide +kernel, by decide +kernel⟩
theorem sc_alike : FnScope ["heap", "other"] ["heap", "other"] (defScope s_alike) := ⟨rfl, rfl, rfl, by decide +kernel, rfl, by decide +kernel, by decide +kernel⟩
theorem sc_l_pool : FnScope ["script", "pool", "cell", "size", "k"] ["script"] (defScope s_l_pool) := ⟨rfl, rfl, rfl, by decide +kernel, rfl, by decide +kernel, by decide +kernel⟩
theorem sc_l_draw : FnScope ["pool", "many"] ["pool", "many"] (defScope s_l_draw) := ⟨rfl, rfl, rfl, by decide +kernel, rfl, by decide +kernel, by decide +kernel⟩
theorem sc_l_sort : FnScope ["thing"] ["thing"] (defScope s_l_sort) := ⟨rfl, rfl, rfl, by decide +kernel, rfl, by decide +kernel, by decide +kernel⟩
theorem sc_l_same : FnScope ["told", "due", "pairs", "k", "one", "two", "kind", "x", "y"] ["told", "due"] (defScope s_l_same) := ⟨rfl, rfl, rfl, by decide +kernel, rfl, by decide +kernel, by decide +kernel⟩
theorem sc_l_names : FnScope ["pool", "many", "names", "letters", "words", "k", "name", "low", "j"] ["pool", "many"] (defScope s_l_names) := ⟨rfl, rfl, rfl, by decide +kernel, rfl, by decide +kernel, by decide +kernel⟩
theorem sc_l_places : FnScope ["pool", "many", "places", "k", "place", "turn"] ["pool", "many"] (defScope s_l_places) := ⟨rfl, rfl, rfl, by decide +kernel, rfl, by decide +kernel, by decide +kernel⟩
theorem sc_l_due : FnScope ["names", "cells", "rows", "place", "mark", "link", "share"] ["names", "cells"] (defScope s_l_due) := ⟨rfl, rfl, rfl, by decide +kernel, rfl, by decide +kernel, by decide +kernel⟩
theorem sc_l_heap : FnScope ["told", "names", "cells", "fields"] ["told", "names", "cells"] (defScope s_l_heap) := ⟨rfl, rfl, rfl, by decide +kernel, rfl, by decide +kernel, by decide +kernel⟩
theorem sc_l_drawn : FnScope ["pool", "size", "many", "rows", "values", "k", "pick", "turn", "link", "share", "mark", "low", "words", "places", "names", "cells"] ["pool"] (defScope s_l_drawn) := ⟨rfl, rfl, rfl, by decide +kernel, rfl, by decide +kernel, by decide +kernel⟩
theorem sc_l_made : FnScope ["names", "cells", "turned", "pairs", "rows", "name", "place", "mark", "link", "share", "heap"] ["names", "cells", "turned"] (defScope s_l_made) := ⟨rfl, rfl, rfl, by decide +kernel, rfl, by decide +kernel, by decide +kernel⟩
theorem sc_l_lost : FnScope ["names", "cells", "met", "name", "place", "turn"] ["names", "cells"] (defScope s_l_lost) := ⟨rfl, rfl, rfl, by decide +kernel, rfl, by decide +kernel, by decide +kernel⟩
theorem sc_l_kept : FnScope ["names", "cells", "lost", "kept", "place"] ["names", "cells"] (defScope s_l_kept) := ⟨rfl, rfl, rfl, by decide +kernel, rfl, by decide +kernel, by decide +kernel⟩
theorem sc_l_moved : FnScope ["names", "cells", "there", "more", "rows", "name", "place", "mark", "link", "share"] ["names", "cells", "there"] (defScope s_l_moved) := ⟨rfl, rfl, rfl, by decide +kernel, rfl, by decide +kernel, by decide +kernel⟩
theorem sc_l_alike : FnScope ["one", "cells", "two", "rows", "pairs", "name", "there", "back", "k", "x", "y", "mark", "link", "share"] ["one", "cells", "two", "rows"] (defScope s_l_alike) := ⟨rfl, rfl, rfl, by decide +kernel, rfl, by decide +kernel, by decide +kernel⟩
theorem sc_l_bent : FnScope ["names", "cells", "places", "kind", "pick", "words", "goal", "place", "mark", "link", "share", "name", "other", "value"] ["names", "cells", "places", "kind", "pick"] (defScope s_l_bent) := ⟨rfl, rfl, rfl, by decide +kernel, rfl, by decide +kernel, by decide +kernel⟩
theorem sc_l_pair : FnScope ["one", "cells", "two", "rows", "turned", "heap", "other", "due", "told", "left", "right"] ["one", "cells", "two", "rows", "turned"] (defScope s_l_pair) := ⟨rfl, rfl, rfl, by decide +kernel, rfl, by decide +kernel, by decide +kernel⟩
theorem sc_l_refuses : FnScope ["heap", "other", "lost", "e"] ["heap", "other", "lost"] (defScope s_l_refuses) := ⟨rfl, rfl, rfl, by decide +kernel, rfl, by decide +kernel, by decide +kernel⟩
theorem sc_l_far : FnScope ["cells", "places", "far", "bad", "turn"] ["cells", "places"] (defScope s_l_far) := ⟨rfl, rfl, rfl, by decide +kernel, rfl, by decide +kernel, by decide +kernel⟩
theorem sc_law : FnScope ["script", "pool", "names", "cells", "places", "turned", "picks", "kind", "kept", "fresh", "there", "k", "two", "rows", "pick", "one", "some", "good", "other", "far", "bad", "near", "more", "odd", "wrong", "asked", "lost", "heap", "last", "due"] ["script"] (defScope s_law) := ⟨rfl, rfl, rfl, by decide +kernel, rfl, by decide +kernel, by decide +kernel⟩
end
end Lw
end

section
open PySem PySem.Spec PyProof.Rows L2 L3 PySem.W
namespace Lw
/-! ### the exception Lost, as the head tells it -/
structure ExLF (K : PySem.W.Frag) : Prop where
  ec : L2.ExcC K (He.ga K "Lost")
  x : L2.XfC K (He.ga K "Lost")
  ad : PySem.W.findIn K (.ref (He.ga K "Lost")) "address" = some none
  val : PySem.W.kitOne K (.ref (He.ga K "Lost")) (.type "ValueError") = some true
  lo : PySem.W.kitOne K (.ref (He.ga K "Lost")) (.ref (He.ga K "Lost")) = some true
  no : PySem.W.kitAny K (.ref (He.ga K "Lost")) [.ref (He.ga K "BadHeap"), .ref (He.ga K "Clash"), .ref (He.ga K "NoName"), .ref (He.ga K "NotInHeap"), .ref (He.ga K "OtherNames")] = some false
  hm : PySem.W.exmOne K (.ref (He.ga K "Lost")) (.ref (He.ga K "HeapError")) = some true
def exhB (K : PySem.W.Frag) (C : Addr) : Bool := decide (PySem.W.findIn K (.ref C) "__getattribute__" = some (some (.builtin "BaseException.__getattribute__"))) && (decide (PySem.W.findIn K (.ref C) "__getattr__" = some none) && (decide (PySem.W.subIn K (.ref C) (.type "BaseException") = some true) && (PySem.W.hasDictIn K C && (decide (PySem.W.findIn K (.ref C) "__class__" = some (some (.builtin "object.__class__"))) && (decide (PySem.W.specialIn K (.builtin "object.__class__") "__get__" = some (some (.builtin "getset_descriptor.__get__"))) && (decide (PySem.W.takesIn K (.builtin "object.__class__") = some true) && (decide (PySem.W.mroIn K C (.type "object") = some true) && decide (PySem.W.exmOne K (.ref C) (.ref (He.ga K "HeapError")) = some true))))))))
theorem exhB_ok {K : PySem.W.Frag} {C : Addr} (h : exhB K C = true) : L2.ExcC K C ∧ L2.XfC K C ∧ PySem.W.exmOne K (.ref C) (.ref (He.ga K "HeapError")) = some true := by
  unfold exhB at h
  obtain ⟨h1, h⟩ := He.ba h
  obtain ⟨h2, h⟩ := He.ba h
  obtain ⟨h3, h⟩ := He.ba h
  obtain ⟨h4, h⟩ := He.ba h
  obtain ⟨h5, h⟩ := He.ba h
  obtain ⟨h6, h⟩ := He.ba h
  obtain ⟨h7, h⟩ := He.ba h
  obtain ⟨h8, h9⟩ := He.ba h
  exact ⟨⟨of_decide_eq_true h1, of_decide_eq_true h2, of_decide_eq_true h3, h4, of_decide_eq_true h5, of_decide_eq_true h6, of_decide_eq_true h7, of_decide_eq_true h8⟩, ⟨of_decide_eq_true h1, of_decide_eq_true h2, of_decide_eq_true h3, h4⟩, of_decide_eq_true h9⟩
def ex3B (K : PySem.W.Frag) : Bool := exhB K (He.ga K "Lost") && (decide (PySem.W.findIn K (.ref (He.ga K "Lost")) "address" = some none) && (decide (PySem.W.kitOne K (.ref (He.ga K "Lost")) (.type "ValueError") = some true) && (decide (PySem.W.kitOne K (.ref (He.ga K "Lost")) (.ref (He.ga K "Lost")) = some true) && decide (PySem.W.kitAny K (.ref (He.ga K "Lost")) [.ref (He.ga K "BadHeap"), .ref (He.ga K "Clash"), .ref (He.ga K "NoName"), .ref (He.ga K "NotInHeap"), .ref (He.ga K "OtherNames")] = some false))))
theorem ex3B_ok {K : PySem.W.Frag} (h : ex3B K = true) : ExLF K := by
  unfold ex3B at h
  obtain ⟨h1, h⟩ := He.ba h
  obtain ⟨h2, h⟩ := He.ba h
  obtain ⟨h3, h⟩ := He.ba h
  obtain ⟨h4, h5⟩ := He.ba h
  obtain ⟨a1, a2, a3⟩ := exhB_ok h1
  exact ⟨a1, a2, of_decide_eq_true h2, of_decide_eq_true h3, of_decide_eq_true h4, of_decide_eq_true h5, a3⟩

end Lw
end

section
namespace Lw
open PySem PySem.Spec PyProof.Rows L2 L3
def progF : Str := "/claim/cut.py"
def sizP (K : PySem.W.Frag) : Addr := He.ma K (He.ga K "Heap") "size"
def sizG (K : PySem.W.Frag) : Addr := match PySem.W.recIn K (sizP K) "property" with
  | some (.ref g :: _) => g
  | _ => 0
def fs : List Sd := [supSd "Lost" "" (defBody s_Lost_init) (defArgs s_Lost_init) (defScope s_Lost_init), supSd "NoName" "" (defBody s_NoName_init) (defArgs s_NoName_init) (defScope s_NoName_init),
  ⟨sizG, "size", "Heap.size", defArgs s_Heap_size, defBody s_Heap_size, defScope s_Heap_size, []⟩]
def sizB (K : PySem.W.Frag) : Bool := decide (PySem.W.findIn K (.ref (He.ga K "Heap")) "size" = some (some (.ref (sizP K)))) && (decide (PySem.W.specialIn K (.ref (sizP K)) "__get__" = some (some (.builtin "property.__get__"))) && (decide (PySem.W.takesIn K (.ref (sizP K)) = some true) && ((match PySem.W.recIn K (sizP K) "property" with
  | some (.ref _ :: _) => true
  | _ => false) && (PySem.W.keepIn K (.ref (sizG K)) && (match K.lookup (sizG K) with
  | some ⟨_, _, .func fd, _⟩ => PySem.W.codeIn K fd.code "Heap.size" && (He.dflB K fd.defaults [] && He.kwdB K fd.kwdefaults [])
  | _ => false)))))
def tyB (K : PySem.W.Frag) : Bool := decide (PySem.W.findIn K (.ref (He.ga K "Heap")) "__class__" = some (some (.builtin "object.__class__"))) && (decide (PySem.W.specialIn K (.builtin "object.__class__") "__get__" = some (some (.builtin "getset_descriptor.__get__"))) && (decide (PySem.W.takesIn K (.builtin "object.__class__") = some true) && decide (PySem.W.mroIn K (He.ga K "Heap") (.type "object") = some true)))
def tyFB (K : PySem.W.Frag) : Bool := decide (PySem.W.findIn K (.ref (He.ga K "Figure")) "__class__" = some (some (.builtin "object.__class__"))) && decide (PySem.W.mroIn K (He.ga K "Figure") (.type "object") = some true)
def exS (K : PySem.W.Frag) : Bool := ex K && (supB progF K "Lost" && (supNB progF K "NoName" && (sizB K && (tyB K && (tyFB K && (ex3B K && PySem.W.selfFirst K (He.ga K "Heap")))))))
abbrev hkS : PySem.W.Hook := hookS 5 fa fn fs exS
abbrev R : PySem.W.OpenRow := PySem.W.OpenLaw.row PySem.Challenge.rw_heapshares_k08_written_alike_up_to_addre
def ob (s : PySem.W.SharedT) : AlS := obsS 5 fa fn fs exS (HandSHeadRun.getT s)
theorem ob_eq (s : PySem.W.SharedT) : ob s = hkS.obs s.abs := obsS_eq (HandSHeadRun.getT_eq s)
abbrev loose : List PySem.Str := (["_wall", "HeapError", "BadHeap", "NoName", "OtherNames", "Clash", "NotInHeap", "Lost", "BadFigure", "LETTERS", "MOST_IN_NAME", "WHOLE", "NOT_NAMES", "has_letters_only", "is_name", "Figure", "figure_from", "outs_as_tuples", "held_spots", "figure_key"] : List PySem.Str) ++ (["names_ascend", "names_have_spots", "outs_lead_to_spots", "spots_are_numbered", "has_plain_spot", "MARKS_OF_CELLS", "MOST_VALUE", "Heap", "heap_names", "heap_cells", "heap_from", "address_outside", "heap_of_both", "lost_cells", "written", "plain_cells", "segment_word", "alike", "_law_pool", "_law_draw"] : List PySem.Str) ++ (["_law_sort", "_law_same", "_law_names", "_law_places", "_law_due", "_law_heap", "_law_drawn", "_law_made", "_law_lost", "_law_kept", "_law_moved", "_law_alike", "_law_bent", "_law_pair", "_law_refuses", "_law_far"] : List PySem.Str)
theorem run (w : World) : HandSHeadRun.RunEq R (PySem.W.view R.prog [63]) hkS ob 6000 loose w := by
  intro os
  kernel_rfl

end Lw
end

section
open PySem PySem.Spec PyProof.Rows L2 L3 PySem.W
local macro_rules | `(tactic| walk_at "hx") => `(tactic| first
  | assumption
  | (refine Ex.get (by assumption) ?_; walk_at "hx"))
local macro_rules | `(tactic| walk_at "sq") => `(tactic| first
  | assumption
  | (refine Or.inl (Or.inl ?_); walk_at "hx")
  | (refine Ex.sqL (by assumption) ?_; walk_at "sq")
  | (refine Ex.sqT (by assumption) ?_; walk_at "sq"))
local macro_rules | `(tactic| walk_at "at") => `(tactic| first | exact atI_zero | rfl | exact atI_of (by omega) (by assumption))
local macro_rules | `(tactic| walk_at "sz") => `(tactic| first | assumption | (simp only [List.length_cons, List.length_nil, List.length_append, List.length_map]; first | done | decide | (rw [sizeLine_eq]; omega)) | (rw [sizeLine_eq]; omega))
local macro_rules | `(tactic| walk_at "s1") => `(tactic| first
  | with_reducible refine' k_seq ?_
  | with_reducible refine' k_asg ?_
  | with_reducible refine' k_nx ?_
  | with_reducible refine' k_ret ?_
  | with_reducible refine' k_retN ?_
  | with_reducible refine' k_if ?_
  | with_reducible refine' k_ifE ?_
  | with_reducible refine' k_test ?_
  | with_reducible refine' k_tb ?_
  | with_reducible refine' k_and ?_
  | with_reducible refine' k_or ?_
  | with_reducible refine' k_not ?_
  | with_reducible refine' k_chain ?_
  | with_reducible refine' k_iStr ?_
  | with_reducible refine' k_iStrE ?_
  | with_reducible refine' k_andV ?_
  | with_reducible refine' k_orV ?_
  | with_reducible refine' k_notV ?_
  | with_reducible refine' k_isN ?_
  | with_reducible refine' k_notN ?_
  | with_reducible refine' k_op ?_
  | with_reducible refine' k_un ?_
  | ((with_reducible refine' k_var ?hvar ?_); (case hvar => rfl))
  | with_reducible refine' k_c ?_
  | with_reducible refine' k_cb ?_
  | with_reducible refine' k_cons ?_
  | with_reducible refine' k_nil ?_
  | with_reducible refine' k_call ?_
  | with_reducible refine' k_tup ?_
  | with_reducible refine' k_lst ?_
  | with_reducible refine' k_drop ?_
  | with_reducible refine' k_bm ?_
  | with_reducible refine' k_bm0 ?_
  | with_reducible refine' k_name ?_
  | with_reducible refine' k_gsub ?_
  | with_reducible refine' k_gCons ?_
  | with_reducible refine' k_gNil ?_
  | with_reducible refine' k_par ?_
  | with_reducible refine' k_parE ?_
  | with_reducible refine' k_fld ?_
  | with_reducible refine' k_slice ?_
  | with_reducible refine' k_noPart ?_
  | with_reducible refine' k_part ?_
  | with_reducible refine' k_partE ?_
  | with_reducible refine' k_for ?_
  | with_reducible refine' k_rng1 ?_
  | with_reducible refine' k_iList ?_
  | with_reducible refine' k_iTup ?_
  | with_reducible refine' k_zip ?_
  | with_reducible refine' k_lc ?_
  | with_reducible refine' k_yes ?_
  | with_reducible refine' iteT ?_
  | with_reducible refine' iteF ?_
  | with_reducible refine' iteNT ?_
  | with_reducible refine' iteNF ?_
  | with_reducible refine' iteOn ?_
  | with_reducible refine' iteOs ?_
  | with_reducible refine' iteNOn ?_
  | with_reducible refine' iteNOs ?_
  | with_reducible refine' k_enumA ?_
  | with_reducible refine' k_meth ?_
  | with_reducible refine' k_make ?_
  | with_reducible refine' k_dc ?_
  | with_reducible refine' k_sfld ?_
  | with_reducible refine' k_dput ?_
  | with_reducible refine' k_dget ?_
  | with_reducible refine' k_dget1 ?_
  | with_reducible refine' k_din ?_
  | with_reducible refine' k_dnotin ?_
  | with_reducible refine' k_dpop1 ?_)
local macro_rules | `(tactic| walk_at "s2") => `(tactic| first
  | with_reducible refine' k_int ?_
  | with_reducible refine' k_intB ?_
  | with_reducible refine' k_add ?_
  | with_reducible refine' k_sub ?_
  | with_reducible refine' k_lt ?_
  | with_reducible refine' k_le ?_
  | with_reducible refine' k_gt ?_
  | with_reducible refine' k_ge ?_
  | with_reducible refine' k_u ?_
  | with_reducible refine' k_max2 ?_
  | with_reducible refine' k_min2 ?_
  | with_reducible refine' k_abs ?_
  | with_reducible refine' k_inS ?_
  | ((with_reducible refine' k_mod ?hcond ?_); (case hcond => first | assumption | decide | omega))
  | ((with_reducible refine' k_mul ?hcond ?_); (case hcond => first | assumption | (left; decide) | (right; decide) | (left; omega) | (right; omega)))
  | ((with_reducible refine' k_div ?hcond ?_); (case hcond => first | assumption | decide))
  | ((with_reducible refine' k_pow ?hcond ?_); (case hcond => first | assumption | decide))
  | ((with_reducible refine' k_eq ?hcond ?_); (case hcond => rfl))
  | ((with_reducible refine' k_ne ?hcond ?_); (case hcond => rfl))
  | with_reducible refine' k_bl ?_
  | ((with_reducible refine' k_ixL ?hseq ?hat ?_); (case hseq => walk_at "sq"); (case hat => walk_at "at"))
  | ((with_reducible refine' k_ixT ?hseq ?hat ?_); (case hseq => walk_at "sq"); (case hat => walk_at "at"))
  | ((with_reducible refine' k_len ?hseq ?_); (case hseq => first | (refine Or.inl ?_; walk_at "sq") | (refine Or.inr ?_; walk_at "sq")))
  | ((with_reducible refine' k_rng1E ?hlo ?hhi ?_); (case hlo => first | decide | omega); (case hhi => first | decide | omega))
  | ((with_reducible refine' k_iListE ?hseq ?_); (case hseq => walk_at "sq"))
  | ((with_reducible refine' k_iTupE ?hseq ?_); (case hseq => walk_at "sq"))
  | ((with_reducible refine' k_lenS ?hsz ?_); (case hsz => walk_at "sz"))
  | ((with_reducible refine' k_lenD ?hseq ?_); (case hseq => walk_at "hx"))
  | ((with_reducible refine' k_tyA ?hseq ?_); (case hseq => walk_at "sq"))
  | ((with_reducible refine' k_append ?hseq ?hsz ?_); (case hseq => walk_at "hx"); (case hsz => walk_at "sz"))
  | ((with_reducible refine' k_gTup ?hseq ?hsz ?_); (case hseq => walk_at "sq"); (case hsz => rfl))
  | ((with_reducible refine' k_new ?hsz ?_); (case hsz => walk_at "sz")))
local macro_rules | `(tactic| walk_at "st") => `(tactic| first | walk_at "s1" | walk_at "s2")

namespace Lw
/-- the pool: a counter, digits -/
def PoolO (o : HO) : Prop := ∃ (c : Int) (ds : List Int), o = .lst ((c :: ds).map V.int) ∧ 0 ≤ c ∧ ds.length ≤ 1000 ∧ ∀ d ∈ ds, 0 ≤ d ∧ d < 60
def Pool (H : Hp) (a : Addr) : Prop := ∃ o, H a = some o ∧ PoolO o
def spDraw : Sp := fun vs H Q _ => ∃ (a : Addr) (m : Int), vs = [.ref a, .int m] ∧ Pool H a ∧ 0 < m ∧ ∀ r H1, 0 ≤ r → r < m → Pool H1 a → ExB a H H1 → Q (.int r) H1
section
variable {P : Program} {w : World} {K : PySem.W.Frag} {mg : Str → Option Value} {base : Heap}
theorem c_l_draw (T : Tx w K mg) : Cal P w K mg base CX0 1 "_law_draw" ["pool", "many"] spDraw := by
  refine cal_mk T.D_l_draw T.m__law_draw sc_l_draw (fun _ _ _ _ _ _ us hl => match us, hl with | [_, _], _ => rfl) (fun vs H Q E h => ?_) (fun f cdv A outer s H vs Q E hr h => ?_)
  · obtain ⟨a, m, rfl, _⟩ := h
    rfl
  · obtain ⟨a, m, rfl, ⟨o, ho, c, ds, rfl, hc, hl, hd⟩, hm, k⟩ := h
    refine ⟨_, (pss_cons (ps_asg (pe_op o_add (pe_ix ix_list (pv 0) pe_int (fun _ _ => rfl)) pe_int) (pg_sub (pv 0) pe_int set_list))
  (pss_cons (ps_if (pt_cmpR o_lt (pe_ix ix_list (pv 0) pe_int (fun _ _ => rfl)) (pe_callB cr_len rfl T.f_len (by decide +kernel) (pa_cons (pv 0) pa_nil)) (nomark _)) (pss_one (ps_ret (pe_op o_mod (pe_callTy cr_int rfl T.f_int (by decide +kernel) (pa_cons (pe_ix ix_list (pv 0) (pe_ix ix_list (pv 0) pe_int (fun _ _ => rfl)) (fun _ _ => rfl)) pa_nil)) (pv 1)))) pss_nil)
  (pss_one (ps_ret pe_int)))), ?_⟩
    dsimp only [cxOf, Cx.nox]
    repeat walk_at "st"
    refine k_setL ho (ixN_zero (by simp)) ?_
    have h1 : upd H a (.lst (List.set ((c :: ds).map V.int) 0 (V.int (c + 1)))) a = some (.lst (((c + 1) :: ds).map V.int)) := upd_same
    have b1 : ExB a H (upd H a (.lst (List.set ((c :: ds).map V.int) 0 (V.int (c + 1))))) := ExB.upd
    generalize upd H a (.lst (List.set ((c :: ds).map V.int) 0 (V.int (c + 1)))) = H1 at h1 b1
    repeat walk_at "st"
    have po : Pool H1 a := ⟨_, h1, c + 1, ds, rfl, by omega, hl, hd⟩
    split
    · rename_i hlt
      have hlt := of_decide_eq_true hlt
      repeat walk_at "st"
      have hn : (c + 1).toNat < ((c + 1) :: ds).length := by
        rw [List.length_map] at hlt
        omega
      refine k_ixL (Or.inl (Or.inl h1)) (atI_of (v := V.int (((c + 1) :: ds)[(c + 1).toNat])) (by omega) (by rw [List.getElem?_map, List.getElem?_eq_getElem hn]; rfl)) ?_
      repeat walk_at "st"
      exact k _ _ (Int.emod_nonneg _ (by omega)) (Int.emod_lt_of_pos _ hm) po b1
    · refine k_nx ?_
      repeat walk_at "st"
      exact k _ _ (Int.le_refl 0) hm po b1
end


/-- which sort of thing: the number that _law_sort gives -/
inductive Sort1 (K : PySem.W.Frag) (H : Hp) : V → Int → Prop
  | bl (b : Bool) : Sort1 K H (.bl b) 1
  | int (i : Int) : Sort1 K H (.int i) 2
  | str (x : Str) : Sort1 K H (.str x) 3
  | tup {a : Addr} {xs : List V} (h : SqT K H a xs) : Sort1 K H (.ref a) 4
  | lst {a : Addr} {xs : List V} (h : SqL K H a xs) : Sort1 K H (.ref a) 5
  | non : Sort1 K H .non 0
def spSort (K : PySem.W.Frag) : Sp := fun vs H Q _ => ∃ x n, vs = [x] ∧ Sort1 K H x n ∧ Q (.int n) H
section
variable {P : Program} {w : World} {K : PySem.W.Frag} {mg : Str → Option Value} {base : Heap}
theorem c_l_sort (T : Tx w K mg) : Cal P w K mg base CX0 1 "_law_sort" ["thing"] (spSort K) := by
  refine cal_mk T.D_l_sort T.m__law_sort sc_l_sort (fun _ _ _ _ _ _ us hl => match us, hl with | [_], _ => rfl) (fun vs H Q E h => ?_) (fun f cdv A outer s H vs Q E hr h => ?_)
  · obtain ⟨x, n, rfl, _⟩ := h
    rfl
  · obtain ⟨x, n, rfl, hx, k⟩ := h
    refine ⟨_, (pss_cons (ps_if (pt_val (pe_callB call_isi rfl T.f_isinstance (by decide +kernel) (pa_cons (pv 0) (pa_cons (pe_ty (n := "bool") rfl T.f_bool (by decide +kernel)) pa_nil)))) (pss_one (ps_ret pe_int)) pss_nil)
  (pss_cons (ps_if (pt_val (pe_callB call_isi rfl T.f_isinstance (by decide +kernel) (pa_cons (pv 0) (pa_cons (pe_ty (n := "int") rfl T.f_int (by decide +kernel)) pa_nil)))) (pss_one (ps_ret pe_int)) pss_nil)
  (pss_cons (ps_if (pt_val (pe_callB call_isi rfl T.f_isinstance (by decide +kernel) (pa_cons (pv 0) (pa_cons (pe_ty (n := "str") rfl T.f_str (by decide +kernel)) pa_nil)))) (pss_one (ps_ret pe_int)) pss_nil)
  (pss_cons (ps_if (pt_val (pe_callB call_isi rfl T.f_isinstance (by decide +kernel) (pa_cons (pv 0) (pa_cons (pe_ty (n := "tuple") rfl T.f_tuple (by decide +kernel)) pa_nil)))) (pss_one (ps_ret pe_int)) pss_nil)
  (pss_cons (ps_if (pt_val (pe_callB call_isi rfl T.f_isinstance (by decide +kernel) (pa_cons (pv 0) (pa_cons (pe_ty (n := "list") rfl T.f_list (by decide +kernel)) pa_nil)))) (pss_one (ps_ret pe_int)) pss_nil)
  (pss_one (ps_ret (pe_ifExp (pt_cmp (pc_isN (pv 0))) pe_int pe_int)))))))), ?_⟩
    dsimp only [cxOf, Cx.nox]
    have step : ∀ {tn : String}, TyX K H x (.type tn) → True := fun _ => trivial
    cases hx with
    | bl b =>
      repeat walk_at "st"
      refine k_isi (.base (.bl b)) (b := true) (by decide +kernel) ?_
      repeat walk_at "st"
      exact k
    | int i =>
      repeat walk_at "st"
      refine k_isi (.base (.int i)) (b := false) (by decide +kernel) ?_
      repeat walk_at "st"
      refine k_isi (.base (.int i)) (b := true) (by decide +kernel) ?_
      repeat walk_at "st"
      exact k
    | str z =>
      repeat walk_at "st"
      refine k_isi (.base (.str z)) (b := false) (by decide +kernel) ?_
      repeat walk_at "st"
      refine k_isi (.base (.str z)) (b := false) (by decide +kernel) ?_
      repeat walk_at "st"
      refine k_isi (.base (.str z)) (b := true) (by decide +kernel) ?_
      repeat walk_at "st"
      exact k
    | @tup a xs hs =>
      have ty := tyX_T hs
      repeat walk_at "st"
      refine k_isi ty (b := false) (by decide +kernel) ?_
      repeat walk_at "st"
      refine k_isi ty (b := false) (by decide +kernel) ?_
      repeat walk_at "st"
      refine k_isi ty (b := false) (by decide +kernel) ?_
      repeat walk_at "st"
      refine k_isi ty (b := true) (by decide +kernel) ?_
      repeat walk_at "st"
      exact k
    | @lst a xs hs =>
      have ty := tyX_L hs
      repeat walk_at "st"
      refine k_isi ty (b := false) (by decide +kernel) ?_
      repeat walk_at "st"
      refine k_isi ty (b := false) (by decide +kernel) ?_
      repeat walk_at "st"
      refine k_isi ty (b := false) (by decide +kernel) ?_
      repeat walk_at "st"
      refine k_isi ty (b := false) (by decide +kernel) ?_
      repeat walk_at "st"
      refine k_isi ty (b := true) (by decide +kernel) ?_
      repeat walk_at "st"
      exact k
    | non =>
      have ty : TyX K H .non (.type "NoneType") := .base .non
      repeat walk_at "st"
      refine k_isi ty (b := false) (by decide +kernel) ?_
      repeat walk_at "st"
      refine k_isi ty (b := false) (by decide +kernel) ?_
      repeat walk_at "st"
      refine k_isi ty (b := false) (by decide +kernel) ?_
      repeat walk_at "st"
      refine k_isi ty (b := false) (by decide +kernel) ?_
      repeat walk_at "st"
      refine k_isi ty (b := false) (by decide +kernel) ?_
      repeat walk_at "st"
      exact k
end


theorem sort_of {K : PySem.W.Frag} {H : Hp} : ∀ {d : PyData} {x : V}, Dp K H x d → ∃ n : Int, Sort1 K H x n ∧ n ≠ 6 ∧ (∀ {y : V} {H' : Hp}, Dp K H' y d → Sort1 K H' y n) ∧ (n < 4 → ∀ {y : V} {H' : Hp}, Dp K H' y d → y = x ∧ scal x x = true) ∧ (4 ≤ n → (∃ ds, d = .list ds) ∨ ∃ ds, d = .tuple ds) := by
  intro d x h
  cases h with
  | non => exact ⟨0, .non, by decide, fun h => by cases h; exact .non, fun _ _ _ h => by cases h; exact ⟨rfl, rfl⟩, fun h => absurd h (by decide)⟩
  | bl b => exact ⟨1, .bl b, by decide, fun h => by cases h; exact .bl b, fun _ _ _ h => by cases h; exact ⟨rfl, rfl⟩, fun h => absurd h (by decide)⟩
  | int i => exact ⟨2, .int i, by decide, fun h => by cases h; exact .int i, fun _ _ _ h => by cases h; exact ⟨rfl, rfl⟩, fun h => absurd h (by decide)⟩
  | str z => exact ⟨3, .str z, by decide, fun h => by cases h; exact .str z, fun _ _ _ h => by cases h; exact ⟨rfl, rfl⟩, fun h => absurd h (by decide)⟩
  | lst hs ha => exact ⟨5, .lst hs, by decide, fun h => by cases h with | lst hs _ => exact .lst hs, fun h => absurd h (by decide), fun _ => .inl ⟨_, rfl⟩⟩
  | tup hs ha => exact ⟨4, .tup hs, by decide, fun h => by cases h with | tup hs _ => exact .tup hs, fun h => absurd h (by decide), fun _ => .inr ⟨_, rfl⟩⟩
/-- both read as the same data -/
def spSame (K : PySem.W.Frag) : Sp := fun vs H Q _ => ∃ x y d, vs = [x, y] ∧ Dp K H x d ∧ Dp K H y d ∧ wt d ≤ 9000 ∧ ∀ H', Ex H H' → Q (.bl true) H'
/-- a pair that waits -/
structure Wait where
  p : Addr
  x : V
  y : V
  d : PyData
def WaitOk (K : PySem.W.Frag) (H H' : Hp) (q : Wait) : Prop := H' q.p = some (.tup [q.x, q.y]) ∧ Dp K H q.x q.d ∧ Dp K H q.y q.d
def wsum (qs : List Wait) : Nat := wts (qs.map (·.d))
theorem wsum_app (a b : List Wait) : wsum (a ++ b) = wsum a + wsum b := by
  unfold wsum
  rw [List.map_append, wts_app]
theorem wsum_len (a : List Wait) : a.length ≤ wsum a := by
  have := wts_ge (a.map (·.d))
  rw [List.length_map] at this
  exact this
section
variable {P : Program} {w : World} {K : PySem.W.Frag} {mg : Str → Option Value} {base : Heap}
def SameI (K : PySem.W.Frag) (H : Hp) (told due : V) (l : Addr) (bound : Nat) (σ : L2.St) (H' : Hp) : Prop := ∃ (qs : List Wait) (v3 v4 v5 v6 v7 v8 : Option V), σ = [some told, some due, some (.ref l), v3, v4, v5, v6, v7, v8] ∧
  H l = none ∧ Ex H H' ∧ H' l = some (.lst (qs.map fun q => V.ref q.p)) ∧ (∀ q ∈ qs, WaitOk K H H' q) ∧ wsum qs ≤ bound
def SameZ (K : PySem.W.Frag) (H : Hp) (told due : V) (l : Addr) (init : List Wait) (ds : List PyData) (j : Nat) (v3 v4 v5 v6 : Option V) (σ : L2.St) (H' : Hp) : Prop := ∃ (qs : List Wait) (v7 v8 : Option V), σ = [some told, some due, some (.ref l), v3, v4, v5, v6, v7, v8] ∧
  Ex H H' ∧ H' l = some (.lst ((init ++ qs).map fun q => V.ref q.p)) ∧ (∀ q ∈ init ++ qs, WaitOk K H H' q) ∧ wsum qs = wts (ds.take j)
theorem c_l_same (T : Tx w K mg) : Cal P w K mg base CX0 2 "_law_same" ["told", "due"] (spSame K) := by
  refine cal_mk T.D_l_same T.m__law_same sc_l_same (fun _ _ _ _ _ _ us hl => match us, hl with | [_, _], _ => rfl) (fun vs H Q E h => ?_) (fun f cdv A outer s H vs Q E hr h => ?_)
  · obtain ⟨x, y, d, rfl, _⟩ := h
    rfl
  · obtain ⟨x, y, d, rfl, hx, hy, hd, k⟩ := h
    refine ⟨_, ((pss_cons (ps_set (i := 2) sc_l_same.nd rfl (Or.inl rfl) (pe_lst (pa_cons (pe_tup (pa_cons (pv 0) (pa_cons (pv 1) pa_nil))) pa_nil)))
  (pss_cons (ps_for PassesOwn.never rfl (pi_range1 rfl T.f_range (pa_cons pe_int pa_nil)) (pg_name (i := 3) sc_l_same.nd rfl (Or.inl rfl)) (pss_cons (ps_if (pt_cmpR op_eq (pe_callB cr_len rfl T.f_len (by decide +kernel) (pa_cons (pv 2) pa_nil)) pe_int (nomark _)) (pss_one (ps_ret pe_bl)) pss_nil)
  (pss_cons (ps_asg (pe_bm0 PySem.F.plainAttrs_list PySem.F.slot_list_pop PySem.F.type_list_pop mt_pop (pv 2)) (pg_tup (n := 2) rfl (pgs_cons (pg_name (i := 4) sc_l_same.nd rfl (Or.inl rfl)) (pgs_cons (pg_name (i := 5) sc_l_same.nd rfl (Or.inl rfl)) pgs_nil))))
  (pss_cons (ps_set (i := 6) sc_l_same.nd rfl (Or.inl rfl) (by exact pe_cal (c_l_sort T) hr (by decide) rfl pass0 (pa_cons (pv 5) pa_nil)))
  (pss_cons (ps_if (PW.pt (pw_or (pt_cmpR op_eq (pv 6) pe_int (nomark _)) (pw_or1 (pt_cmpR op_ne (by exact pe_cal (c_l_sort T) hr (by decide) rfl pass0 (pa_cons (pv 4) pa_nil)) (pv 6) (nomark _))))) (pss_one (ps_ret pe_bl)) pss_nil)
  (pss_one (ps_if (pt_cmpR o_ge (pv 6) pe_int (nomark _)) (pss_cons (ps_if (pt_cmpR op_ne (pe_callB cr_len rfl T.f_len (by decide +kernel) (pa_cons (pv 4) pa_nil)) (pe_callB cr_len rfl T.f_len (by decide +kernel) (pa_cons (pv 5) pa_nil)) (nomark _)) (pss_one (ps_ret pe_bl)) pss_nil)
  (pss_one (ps_for PassesOwn.never rfl (RZ.pi_zipA rfl T.f_zip (pa_cons (pv 4) (pa_cons (pv 5) pa_nil))) (pg_tup (n := 2) rfl (pgs_cons (pg_name (i := 7) sc_l_same.nd rfl (Or.inl rfl)) (pgs_cons (pg_name (i := 8) sc_l_same.nd rfl (Or.inl rfl)) pgs_nil))) (pss_one (ps_expr (pe_bm PySem.F.plainAttrs_list PySem.F.slot_list_append PySem.F.type_list_append mt_append (pv 2) (pa_cons (pe_tup (pa_cons (pv 7) (pa_cons (pv 8) pa_nil))) pa_nil))))))) (pss_one (ps_if (pt_cmpR op_ne (pv 4) (pv 5) (nomark _)) (pss_one (ps_ret pe_bl)) pss_nil)))))))))
  (pss_one (ps_ret pe_bl))))), ?_⟩
    dsimp only [cxOf, Cx.nox]
    repeat walk_at "st"
    intro p H1 hp e1 h1
    repeat walk_at "st"
    intro l H2 hl e2 h2
    repeat walk_at "st"
    have e02 : Ex H H2 := e1.trans e2
    refine for_range (lo := 0) (fun i σ' H' => SameI K H x y l (9000 - i) σ' H' ∧ i ≤ 9000) ?_ ?_ ?_
    · exact ⟨⟨[⟨p, x, y, d⟩], none, none, none, none, none, none, rfl, e1.none hl, e02, h2, fun q hq => by
        rw [List.mem_singleton.mp hq]
        exact ⟨e2.get h1, hx, hy⟩, by simpa [wsum, wts] using hd⟩, Nat.zero_le _⟩
    · rintro i σ' H' hi ⟨⟨qs, v3, v4, v5, v6, v7, v8, rfl, n0, e, hL, hq, hw⟩, hi9⟩
      repeat walk_at "st"
      split
      · repeat walk_at "st"
        exact k _ e
      · rename_i hne
        have hqs : qs ≠ [] := fun z => hne (by rw [z]; rfl)
        obtain ⟨init, q, rfl⟩ : ∃ init q, qs = init ++ [q] := ⟨qs.dropLast, qs.getLast hqs, (List.dropLast_concat_getLast hqs).symm⟩
        have hi1 : wsum (init ++ [q]) = wsum init + wt q.d := by
          rw [wsum_app]
          simp [wsum, wts]
        have hpos := wt_pos q.d
        have hlt : i + 1 ≤ 9000 := by
          have := wsum_len (init ++ [q])
          rw [List.length_append, List.length_singleton] at this
          omega
        obtain ⟨hqp, hqx, hqy⟩ := hq q (by simp)
        repeat walk_at "st"
        refine k_pop (v := .ref q.p) hL (by simp) ?_
        intro H3 b3 h3
        have nql : q.p ≠ l := ne_of hqp hL (by intro z; cases z)
        have hqp3 : H3 q.p = some (.tup [q.x, q.y]) := b3 _ _ nql hqp
        have e3 : Ex H H3 := ExB.old e n0 b3
        have hr3 : ∀ r ∈ init, WaitOk K H H3 r := fun r hr => by
          obtain ⟨a1, a2, a3⟩ := hq r (by simp [hr])
          exact ⟨b3 _ _ (ne_of a1 hL (by intro z; cases z)) a1, a2, a3⟩
        have h3' : H3 l = some (.lst (init.map fun q => V.ref q.p)) := by
          rw [h3]
          simp
        repeat walk_at "st"
        obtain ⟨n, s1, s6, sy, sf, sd⟩ := sort_of (Dp_ex e3 _ _ hqx)
        refine ⟨q.y, n, rfl, sy (Dp_ex e3 _ _ hqy), ?_⟩
        repeat walk_at "st"
        rw [show decide (V.int n = V.int 6) = false from decide_eq_false fun z => s6 (V.int.inj z)]
        refine iteF ?_
        repeat walk_at "st"
        refine ⟨q.x, n, rfl, s1, ?_⟩
        repeat walk_at "st"
        rw [decide_eq_true (rfl : V.int n = V.int n)]
        refine iteF ?_
        repeat walk_at "st"
        split
        · rename_i h4
          have h4 : (4 : Int) ≤ n := of_decide_eq_true h4
          -- the items' pairs wait
          have inner : ∀ (xs ys : List V) (ds : List PyData) (ax ay : Addr) (D : Ends), DpAll K H xs ds → DpAll K H ys ds → 1 + wts ds = wt q.d →
              ∀ (j : Nat) (x1 y1 : V) (T1 : Addr) (σ5 : L2.St) (H5 : Hp), xs[j]? = some x1 → ys[j]? = some y1 → SameZ K H x y l init ds j (some (.int (0 + (i : Int)))) (some q.x) (some q.y) (some (.int n)) σ5 H5 → H5 T1 = none →
              gTup K 2 (gCons (gName 7) (gCons (gName 8) gNil)) (.ref T1) σ5 (upd H5 T1 (.tup [x1, y1])) fun σ2 H2 =>
                tDrop (tBM K "list" rAppend (tVar 2) (tCons (tTup (tCons (tVar 7) (tCons (tVar 8) tNil))) tNil)) { D with nx := SameZ K H x y l init ds (j + 1) (some (.int (0 + (i : Int)))) (some q.x) (some q.y) (some (.int n)), ct := SameZ K H x y l init ds (j + 1) (some (.int (0 + (i : Int)))) (some q.x) (some q.y) (some (.int n)), bk := D.nx } σ2 H2 := by
            rintro xs ys ds ax ay D hxs hys hds j x1 y1 T1 σ5 H5 hj1 hj2 ⟨qs', v7, v8, rfl, e5, h5, hr5, hw5⟩ hT1
            obtain ⟨d1, hd1, dx1⟩ := L3.DpAll.get hxs hj1
            obtain ⟨d2, hd2, dy1⟩ := L3.DpAll.get hys hj2
            rw [hd1] at hd2
            cases hd2
            have eT : Ex H5 (upd H5 T1 (.tup [x1, y1])) := Ex.new hT1
            have hT : upd H5 T1 (.tup [x1, y1]) T1 = some (.tup [x1, y1]) := upd_same
            generalize upd H5 T1 (.tup [x1, y1]) = H6 at eT hT
            have hl5 : (init ++ qs').length ≤ 20000 := by
              have z1 := wsum_len (init ++ qs')
              rw [wsum_app, hw5] at z1
              have z2 : wts (ds.take j) ≤ wts ds := by
                have z3 := wts_app (ds.take j) (ds.drop j)
                rw [List.take_append_drop] at z3
                omega
              omega
            rw [List.length_append] at hl5
            have h6 := eT.get h5
            have n0' := n0
            refine k_gTup (Or.inl (Or.inl hT)) rfl ?_
            repeat walk_at "st"
            intro p7 H7 hp7 e7 h7
            have h67 := e7.get h6
            repeat walk_at "st"
            intro H8 b8 h8
            repeat walk_at "st"
            refine ⟨qs' ++ [⟨p7, x1, y1, d1⟩], _, _, rfl, ExB.old ((e5.trans eT).trans e7) n0 b8, ?_, ?_, ?_⟩
            · rw [h8]
              simp
            · intro r hr
              rw [← List.append_assoc] at hr
              rcases List.mem_append.mp hr with hr | hr
              · obtain ⟨a1, a2, a3⟩ := hr5 r hr
                exact ⟨b8 _ _ (ne_of a1 h5 (by intro z; cases z)) (e7.get (eT.get a1)), a2, a3⟩
              · rw [List.mem_singleton.mp hr]
                exact ⟨b8 _ _ (ne_of h7 h67 (by intro z; cases z)) h7, dx1, dy1⟩
            · rw [wsum_app, hw5, List.take_succ, hd1, wts_app]
              simp [wsum, wts]
          have fin : ∀ (ds : List PyData), 1 + wts ds = wt q.d → ∀ (σ5 : L2.St) (H5 : Hp), SameZ K H x y l init ds ds.length (some (.int (0 + (i : Int)))) (some q.x) (some q.y) (some (.int n)) σ5 H5 → SameI K H x y l (9000 - (i + 1)) σ5 H5 ∧ i + 1 ≤ 9000 := by
            rintro ds hds σ5 H5 ⟨qs', v7, v8, rfl, e5, h5, hr5, hw5⟩
            refine ⟨⟨init ++ qs', _, _, _, _, _, _, rfl, n0, e5, h5, hr5, ?_⟩, hlt⟩
            rw [wsum_app, hw5, List.take_length]
            omega
          rcases q with ⟨qp, qx, qy, qd⟩
          dsimp only at *
          rcases sd h4 with ⟨ds, rfl⟩ | ⟨ds, rfl⟩
          · cases hqx with
            | @lst ax xs _ sx dx =>
              cases hqy with
              | @lst ay ys _ sy dy =>
                have lx := L3.DpAll.length dx
                have ly := L3.DpAll.length dy
                have sx3 := e3.sqL sx
                have sy3 := e3.sqL sy
                repeat walk_at "st"
                rw [lx, ly, decide_eq_true rfl]
                refine iteF ?_
                repeat walk_at "st"
                refine ⟨ax, ay, xs, ys, rfl, Or.inl ⟨sx3, sy3, for_it (walk_zip (n := ds.length) (by rw [lx, ly]; exact (Nat.min_self _).symm)) (SameZ K H x y l init ds · (some (.int (0 + (i : Int)))) (some (.ref ax)) (some (.ref ay)) (some (.int n))) ⟨[], _, _, rfl, e3, by simpa using h3', by simpa using hr3, by simp [wsum, wts]⟩
                  (fun j σ5 H5 _ ⟨_, _, _, _, e5, _⟩ => ⟨e5.sqL sx, e5.sqL sy⟩) (fun j v σ5 H5 H6 hj p ⟨T1, x1, y1, ev, hT, eH, g1, g2⟩ => ?_) (fin ds (by rw [wt]))⟩⟩
                subst ev eH
                exact inner xs ys ds ax ay _ dx dy (by rw [wt]) j x1 y1 T1 σ5 H5 g1 g2 p hT
          · cases hqx with
            | @tup ax xs _ sx dx =>
              cases hqy with
              | @tup ay ys _ sy dy =>
                have lx := L3.DpAll.length dx
                have ly := L3.DpAll.length dy
                have sx3 := e3.sqT sx
                have sy3 := e3.sqT sy
                repeat walk_at "st"
                rw [lx, ly, decide_eq_true rfl]
                refine iteF ?_
                repeat walk_at "st"
                refine ⟨ax, ay, xs, ys, rfl, Or.inr ⟨sx3, sy3, RZ.for_zipT (xs := xs) (ys := ys) (by rw [lx, ly]) (SameZ K H x y l init ds · (some (.int (0 + (i : Int)))) (some (.ref ax)) (some (.ref ay)) (some (.int n))) ⟨[], _, _, rfl, e3, by simpa using h3', by simpa using hr3, by simp [wsum, wts]⟩
                  (fun j σ5 H5 ⟨_, _, _, _, e5, _⟩ => ⟨e5.sqT sx, e5.sqT sy⟩) (fun j x1 y1 T1 σ5 H5 g1 g2 p hT => inner xs ys ds ax ay _ dx dy (by rw [wt]) j x1 y1 T1 σ5 H5 g1 g2 p hT) (by rw [lx]; exact fin ds (by rw [wt]))⟩⟩
        · rename_i h4
          have h4 : ¬ (4 : Int) ≤ n := fun z => h4 (decide_eq_true z)
          obtain ⟨eyx, sc⟩ := sf (by omega) (Dp_ex e3 _ _ hqy)
          repeat walk_at "st"
          rw [eyx]
          refine k_ne sc ?_
          repeat walk_at "st"
          rw [decide_eq_true rfl]
          refine iteF ?_
          repeat walk_at "st"
          exact ⟨⟨init, _, _, _, _, _, _, rfl, n0, e3, h3', hr3, by omega⟩, hlt⟩
    · rintro σ' H' ⟨_, h⟩
      exact absurd h (by decide)
end


/-- the letters a to z -/
def letterB (c : Nat) : Bool := decide (c ∈ ("abcdefghijklmnopqrstuvwxyz" : Str).cps.toList)
def lettersB (z : Str) (most : Int) : Bool := decide ((1 : Int) ≤ (z.length : Int)) && (decide ((z.length : Int) ≤ most) && z.cps.toList.all letterB)
def spLetters : Sp := fun vs H Q _ => ∃ (z : Str) (m : Int), vs = [.str z, .int m] ∧ z.length ≤ 100 ∧ ∀ H', Ex H H' → Q (.bl (lettersB z m)) H'
section
variable {P : Program} {w : World} {K : PySem.W.Frag} {mg : Str → Option Value} {base : Heap}
theorem c_has_letters_only (T : Tx w K mg) : Cal P w K mg base CX0 1 "has_letters_only" ["text", "most"] spLetters := by
  refine cal_mk T.D_has_letters_only T.m_has_letters_only sc_has_letters_only (fun _ _ _ _ _ _ us hl => match us, hl with | [_, _], _ => rfl) (fun vs H Q E h => ?_) (fun f cdv A outer s H vs Q E hr h => ?_)
  · obtain ⟨x, y, rfl, _⟩ := h
    rfl
  · obtain ⟨z, m, rfl, hz, k⟩ := h
    refine ⟨_, ((pss_one (ps_ret (pe_and (pe_chain o_le o_le pe_int (pe_callB cr_lenS rfl T.f_len (by decide +kernel) (pa_cons (pv 0) pa_nil)) (pv 1)) (pe_one (pe_callB (cr_all rfl) rfl T.f_all (by decide +kernel) (pa_cons (pe_lc (own := [("letter", 2)]) rfl sc_has_letters_only.nd (pi_str (pv 0)) (blkOk_by (N := ["text", "most", "letter"]) (sc := defScope s_has_letters_only) (by decide +kernel)) (fun _ _ _ _ _ => (pg_name (i := 2) sc_has_letters_only.nd rfl (Or.inl rfl))) (fun _ _ _ _ _ => pts_nil) (fun _ _ _ _ _ => (pe_cmpR o_inS (pv 2) (by exact C8.pe_gc rfl T.g_LETTERS) rfl))) pa_nil))))))), ?_⟩
    dsimp only [cxOf, Cx.nox]
    repeat walk_at "st"
    have kk : ∀ b, b = lettersB z m → ∀ H', Ex H H' → Q (.bl b) H' := fun b e H' h => by
      rw [e]
      exact k H' h
    by_cases c1 : (1 : Int) ≤ (z.length : Int)
    · rw [decide_eq_true c1]
      repeat walk_at "st"
      by_cases c2 : (z.length : Int) ≤ m
      · rw [decide_eq_true c2]
        repeat walk_at "st"
        refine lc_rel (walk_str (z := z)) (fun _ => true) (fun i y _ => ∃ c, z.cps[i]? = some c ∧ y = V.bl (letterB c)) (by have : z.cps.size = z.length := rfl; omega) (fun _ _ _ _ _ h => h) (fun _ _ => trivial) (fun i x H' H'' R1 R0 hi e y k1 k0 => ?_) (fun D H' ys hD e hL pr => ?_)
        · obtain ⟨rfl, c, hc, rfl⟩ := y
          refine ⟨rfl, ?_⟩
          repeat walk_at "st"
          exact k1 _ _ (Ex.refl _) rfl ⟨c, hc, rfl⟩
        rw [filter_true] at pr
        have e2 : ys = (z.cps.toList.map letterB).map V.bl := Paired.eq_of pr (by simp) fun i y hi ⟨c, hc, ey⟩ => by
          rw [List.map_map, List.getElem?_map, Array.getElem?_toList, hc, ey]
          rfl
        rw [e2] at hL
        repeat walk_at "st"
        refine ⟨D, z.cps.toList.map letterB, rfl, Or.inl (Or.inl hL), ?_⟩
        refine kk _ ?_ _ e
        unfold lettersB
        rw [decide_eq_true c1, decide_eq_true c2, List.all_map]
        rfl
      · rw [decide_eq_false c2]
        repeat walk_at "st"
        refine kk _ ?_ _ (Ex.refl H)
        unfold lettersB
        rw [decide_eq_true c1, decide_eq_false c2]
        rfl
    · rw [decide_eq_false c1]
      repeat walk_at "st"
      refine kk _ ?_ _ (Ex.refl H)
      unfold lettersB
      rw [decide_eq_false c1]
      rfl
end


def notNames : List Str := ["nil", "some", "or", "any", "cell", "row", "proc", "if", "else", "end", "free", "new", "link", "mark", "drop"]
def nameB (z : Str) : Bool := lettersB z 4 && !inV (.str z) (notNames.map V.str)
def spName : Sp := fun vs H Q _ => ∃ (z : Str), vs = [.str z] ∧ z.length ≤ 100 ∧ ∀ H', Ex H H' → Q (.bl (nameB z)) H'
section
variable {P : Program} {w : World} {K : PySem.W.Frag} {mg : Str → Option Value} {base : Heap}
theorem c_is_name (T : Tx w K mg) : Cal P w K mg base CX0 2 "is_name" ["text"] spName := by
  refine cal_mk T.D_is_name T.m_is_name sc_is_name (fun _ _ _ _ _ _ us hl => match us, hl with | [_], _ => rfl) (fun vs H Q E h => ?_) (fun f cdv A outer s H vs Q E hr h => ?_)
  · obtain ⟨x, rfl, _⟩ := h
    rfl
  · obtain ⟨z, rfl, hz, k⟩ := h
    refine ⟨_, ((pss_one (ps_ret (pe_and (by exact pe_cal (c_has_letters_only T) hr (by decide) rfl pass0 (pa_cons (pv 0) (pa_cons (by exact C8.pe_gc rfl T.g_MOST_IN_NAME) pa_nil))) (pe_one (pe_cmpR op_notIn_seq (pv 0) (by exact C8.pe_gc rfl T.g_NOT_NAMES) rfl)))))), ?_⟩
    dsimp only [cxOf, Cx.nox]
    repeat walk_at "st"
    refine ⟨z, 4, rfl, hz, fun H1 e1 => ?_⟩
    repeat walk_at "st"
    by_cases c1 : lettersB z 4 = true
    · rw [c1]
      repeat walk_at "st"
      refine k_in (xs := notNames.map V.str) (Or.inr (T.t_NOT_NAMES H1)) rfl (by decide +kernel) ?_
      have e : (if true = true then !inV (V.str z) (notNames.map V.str) else inV (V.str z) (notNames.map V.str)) = nameB z := by
        rw [if_pos rfl]
        unfold nameB
        rw [c1]
        rfl
      rw [e]
      exact k H1 e1
    · have c1 : lettersB z 4 = false := Bool.eq_false_iff.mpr c1
      rw [c1]
      repeat walk_at "st"
      have e : false = nameB z := by
        unfold nameB
        rw [c1]
        rfl
      rw [e]
      exact k H1 e1
end


/-! ### heaps as data -/
structure Cell where
  a : Int
  m : Str
  l : Int
  s : Int
  deriving DecidableEq
abbrev hC (K : PySem.W.Frag) : Addr := He.ga K "Heap"
def dName (p : Str × Int) : PyData := .tuple [.str p.1, .int p.2]
def dNames (ns : List (Str × Int)) : PyData := .tuple (ns.map dName)
def dCell (c : Cell) : PyData := .tuple [.int c.a, .str c.m, .int c.l, .int c.s]
def dCells (cs : List Cell) : PyData := .tuple (cs.map dCell)
def rowT (c : Cell) : List V := [.str c.m, .int c.l, .int c.s]
def fullT (c : Cell) : List V := [.int c.a, .str c.m, .int c.l, .int c.s]
def kC (c : Cell) : L2.Key := Sum.inl c.a
def TRow (H : Hp) (c : Cell) (v : V) : Prop := ∃ t, v = V.ref t ∧ H t = some (.tup (rowT c))
def TFull (H : Hp) (c : Cell) (v : V) : Prop := ∃ t, v = V.ref t ∧ H t = some (.tup (fullT c))
abbrev RowsOf (H : Hp) (kvs : List (L2.Key × V)) (cs : List Cell) : Prop := RowsK kC TRow H kvs cs
abbrev cellOf (cs : List Cell) (a : Int) : Option Cell := rowAt kC cs (Sum.inl a)
theorem TRow.ex {H H' : Hp} {c : Cell} {v : V} (e : Ex H H') (h : TRow H c v) : TRow H' c v := let ⟨t, h1, h2⟩ := h; ⟨t, h1, e _ _ h2⟩
theorem TFull.ex {H H' : Hp} {c : Cell} {v : V} (e : Ex H H') (h : TFull H c v) : TFull H' c v := let ⟨t, h1, h2⟩ := h; ⟨t, h1, e _ _ h2⟩
def CsOk (cs : List Cell) : Prop := cs.Pairwise fun x y => x.a < y.a
def NmOk (ns : List (Str × Int)) : Prop := ns.Pairwise fun x y => x.1.cps.toList < y.1.cps.toList
theorem CsOk.nd {cs : List Cell} (h : CsOk cs) : (cs.map kC).Nodup := by
  unfold CsOk at h
  rw [List.nodup_iff_pairwise_ne, List.pairwise_map]
  exact h.imp fun {a b} h e => by
    have : a.a = b.a := Sum.inl.inj e
    omega
theorem NmOk.nd {ns : List (Str × Int)} (h : NmOk ns) : (ns.map (·.1)).Nodup := by
  unfold NmOk at h
  rw [List.nodup_iff_pairwise_ne, List.pairwise_map]
  exact h.imp fun {a b} h (e : a.1 = b.1) => str_lt_irrefl _ (by rw [e] at h; exact h)
theorem CsOk.uniq {cs ds : List Cell} (h : CsOk cs) (k : CsOk ds) (e : ∀ c, c ∈ cs ↔ c ∈ ds) : cs = ds := strict_unique (fun a h => by omega) (fun a b c h k => by omega) h k e
theorem CsOk.uniqO {cs ds : List Cell} (h : CsOk cs) (k : CsOk ds) (e : ∀ a, cellOf cs a = cellOf ds a) : cs = ds :=
  h.uniq k ((rowAt_ext h.nd k.nd).mpr fun z => match z with
    | .inl a => e a
    | .inr x => by
      rw [rowAt_none' (fun c _ => by simp [kC]), rowAt_none' (fun c _ => by simp [kC])])
theorem NmOk.uniq {ns ms : List (Str × Int)} (h : NmOk ns) (k : NmOk ms) (e : ∀ c, c ∈ ns ↔ c ∈ ms) : ns = ms := strict_unique (fun a => str_lt_irrefl a.1) (fun a b c => str_lt_trans a.1 b.1 c.1) h k e
def hf (tn tc d : Addr) : List (Str × V) := [("names", .ref tn), ("cells", .ref tc), ("_rows", .ref d)]
structure HeapA (K : PySem.W.Frag) (H : Hp) (p : Addr) (ns : List (Str × Int)) (cs : List Cell) (dx tn tc d : Addr) (kvs : List (L2.Key × V)) : Prop where
  ins : H p = some (.ins (hC K) dx (hf tn tc d))
  nms : Dp K H (.ref tn) (dNames ns)
  cls : Dp K H (.ref tc) (dCells cs)
  dic : H d = some (.dK kvs)
  rows : RowsOf H kvs cs
  lc : cs.length ≤ 60
  ln : ns.length ≤ 20
  co : CsOk cs
  no : NmOk ns
  sn : ∀ n, n ∈ ns → PyData.strOk n.1 = true
  sc : ∀ c, c ∈ cs → PyData.strOk c.m = true ∧ c.a.natAbs ≤ 9999
def HeapAt (K : PySem.W.Frag) (H : Hp) (p : Addr) (ns : List (Str × Int)) (cs : List Cell) : Prop := ∃ dx tn tc d kvs, HeapA K H p ns cs dx tn tc d kvs
theorem HeapA.ex {K : PySem.W.Frag} {H H' : Hp} (e : Ex H H') {p : Addr} {ns : List (Str × Int)} {cs : List Cell} {dx tn tc d : Addr} {kvs : List (L2.Key × V)} (h : HeapA K H p ns cs dx tn tc d kvs) : HeapA K H' p ns cs dx tn tc d kvs :=
  ⟨e _ _ h.ins, Dp_ex e _ _ h.nms, Dp_ex e _ _ h.cls, e _ _ h.dic, RowsK.ex (fun _ _ _ _ e h => h.ex e) e h.rows, h.lc, h.ln, h.co, h.no, h.sn, h.sc⟩
theorem HeapAt.ex {K : PySem.W.Frag} {H H' : Hp} (e : Ex H H') {p : Addr} {ns : List (Str × Int)} {cs : List Cell} (h : HeapAt K H p ns cs) : HeapAt K H' p ns cs :=
  let ⟨dx, tn, tc, d, kvs, a⟩ := h; ⟨dx, tn, tc, d, kvs, a.ex e⟩
theorem hf_names (tn tc d : Addr) : (hf tn tc d).lookup ("names" : Str) = some (.ref tn) := by with_unfolding_all rfl
theorem hf_cells (tn tc d : Addr) : (hf tn tc d).lookup ("cells" : Str) = some (.ref tc) := by with_unfolding_all rfl
theorem hf_rows (tn tc d : Addr) : (hf tn tc d).lookup ("_rows" : Str) = some (.ref d) := by with_unfolding_all rfl
theorem hf_cell (tn tc d : Addr) : (hf tn tc d).lookup ("cell" : Str) = none := by with_unfolding_all rfl
def hf1 (tn : Addr) : List (Str × V) := [("names", .ref tn)]
def hf2 (tn tc : Addr) : List (Str × V) := [("names", .ref tn), ("cells", .ref tc)]
theorem hf2_cells (tn tc : Addr) : (hf2 tn tc).lookup ("cells" : Str) = some (.ref tc) := by with_unfolding_all rfl
theorem hf_1 (tn : Addr) : putF "names" (.ref tn) [] = hf1 tn := rfl
theorem hf_2 (tn tc : Addr) : putF "cells" (.ref tc) (hf1 tn) = hf2 tn tc := by
  show (if ("names" : Str) = "cells" then _ else _) = _
  rw [if_neg (by decide +kernel)]
  rfl
theorem hf_3 (tn tc d : Addr) : putF "_rows" (.ref d) (hf2 tn tc) = hf tn tc d := by
  show (if ("names" : Str) = "_rows" then _ else (("names" : Str), V.ref tn) :: (if ("cells" : Str) = "_rows" then _ else _)) = _
  rw [if_neg (by decide +kernel), if_neg (by decide +kernel)]
  rfl
theorem hf_n (tn tc d tn' : Addr) : putF "names" (.ref tn') (hf tn tc d) = hf tn' tc d := by
  show (if ("names" : Str) = "names" then _ else _) = _
  rw [if_pos rfl]
  rfl
theorem hf_c (tn tc d tc' : Addr) : putF "cells" (.ref tc') (hf tn tc d) = hf tn tc' d := by
  show (if ("names" : Str) = "cells" then _ else (("names" : Str), V.ref tn) :: (if ("cells" : Str) = "cells" then _ else _)) = _
  rw [if_neg (by decide +kernel), if_pos rfl]
  rfl
theorem hf_r (tn tc d d' : Addr) : putF "_rows" (.ref d') (hf tn tc d) = hf tn tc d' := by
  show (if ("names" : Str) = "_rows" then _ else (("names" : Str), V.ref tn) :: (if ("cells" : Str) = "_rows" then _ else (("cells" : Str), V.ref tc) :: (if ("_rows" : Str) = "_rows" then _ else _))) = _
  rw [if_neg (by decide +kernel), if_neg (by decide +kernel), if_pos rfl]
  rfl
/-- what .cell gives -/
def RowV (H : Hp) (o : Option Cell) (v : V) : Prop := match o with
  | none => v = .non
  | some c => TRow H c v
theorem rowsV {H : Hp} {kvs : List (L2.Key × V)} {cs : List Cell} (r : RowsOf H kvs cs) (a : Int) : RowV H (cellOf cs a) ((valV kvs (Sum.inl a)).getD .non) := by
  have q := r.val (Sum.inl a)
  unfold AtR at q
  unfold RowV cellOf
  cases e : rowAt kC cs (Sum.inl a) with
  | none =>
    rw [e] at q
    rw [show valV kvs (Sum.inl a) = none from q]
    rfl
  | some c =>
    rw [e] at q
    obtain ⟨x, h1, h2⟩ := q
    rw [h1]
    exact h2
def spCell (K : PySem.W.Frag) : Sp := fun vs H Q _ => ∃ (p : Addr) (a : Int) (ns : List (Str × Int)) (cs : List Cell), vs = [.ref p, .int a] ∧ HeapAt K H p ns cs ∧ ∀ v, RowV H (cellOf cs a) v → Q v H
section
variable {P : Program} {w : World} {K : PySem.W.Frag} {mg : Str → Option Value} {base : Heap}
theorem me_Heap_cell (T : Tx w K mg) : Met P w K mg base CX0 1 (hC K) "cell" ["self", "address"] (spCell K) := by
  refine met_mk T.D_Heap_cell T.me_Heap_cell sc_Heap_cell (fun _ _ _ _ _ _ us hl => match us, hl with | [_, _], _ => rfl) (fun vs H Q E h => ?_) (fun f cdv A outer s H vs Q E hr h => ?_)
  · obtain ⟨p, a, ns, cs, rfl, _⟩ := h
    rfl
  · obtain ⟨p, a, ns, cs, rfl, ⟨dx, tn, tc, d, kvs, h⟩, k⟩ := h
    have hu := hu_of hr
    refine ⟨_, ((pss_one (ps_ret (pe_dget1 hu (pe_fld (pv 0) rfl) (pv 1) ⟨rfl, rfl, rfl, rfl⟩)))), ?_⟩
    dsimp only [cxOf, Cx.nox]
    repeat walk_at "st"
    refine ⟨p, _, dx, _, _, rfl, h.ins, T.cls_Heap, T.no_Heap__rows, hf_rows _ _ _, d, rfl, k_dget1E (.inl h.dic) ?_⟩
    repeat walk_at "st"
    exact ⟨_, DGet.rd (k := Sum.inl a) (.inl h.dic), k _ (rowsV h.rows a)⟩
end


/-! ### heap_names, heap_cells -/
def NmIn (n : Str × Int) : Prop := nameB n.1 = true ∧ n.1.length ≤ 100 ∧ 0 ≤ n.2 ∧ n.2 ≤ 9999 ∧ PyData.strOk n.1 = true
def kvN (ns : List (Str × Int)) : List (L2.Key × V) := ns.map fun n => (Sum.inr n.1, V.int n.2)
def SeqOf (K : PySem.W.Frag) (H : Hp) (p : Addr) (xs : List V) : Prop := SqL K H p xs ∨ SqT K H p xs
theorem SeqOf.ex {K : PySem.W.Frag} {H H' : Hp} (e : Ex H H') {p : Addr} {xs : List V} (h : SeqOf K H p xs) : SeqOf K H' p xs := h.elim (fun h => .inl (e.sqL h)) fun h => .inr (e.sqT h)
def spNames (K : PySem.W.Frag) : Sp := fun vs H Q _ => ∃ (p : Addr) (xs : List V) (ns : List (Str × Int)), vs = [.ref p] ∧ SeqOf K H p xs ∧ DpAll K H xs (ns.map dName) ∧ (∀ n, n ∈ ns → NmIn n) ∧ (ns.map (·.1)).Nodup ∧ ns.length ≤ 20 ∧
  ∀ H' t ns', Ex H H' → Dp K H' (.ref t) (dNames ns') → NmOk ns' → (∀ n, n ∈ ns' ↔ n ∈ ns) → ns'.length = ns.length → Q (.ref t) H'
theorem kvN_none {ns : List (Str × Int)} {x : Str} (h : x ∉ ns.map (·.1)) : valV (kvN ns) (Sum.inr x) = none := by
  induction ns with
  | nil => rfl
  | cons n ns ih =>
    rw [List.map_cons, List.mem_cons, not_or] at h
    show valV ((Sum.inr n.1, V.int n.2) :: kvN ns) _ = none
    rw [valV_neg (fun e => h.1 (Sum.inr.inj e).symm)]
    exact ih h.2
theorem kvN_some {ns : List (Str × Int)} (nd : (ns.map (·.1)).Nodup) {n : Str × Int} (h : n ∈ ns) : valV (kvN ns) (Sum.inr n.1) = some (.int n.2) := by
  induction ns with
  | nil => cases h
  | cons m ns ih =>
    rw [List.map_cons, List.nodup_cons] at nd
    show valV ((Sum.inr m.1, V.int m.2) :: kvN ns) _ = _
    rcases List.mem_cons.mp h with e | e
    · rw [e, valV_pos rfl]
    · rw [valV_neg (fun z => nd.1 (List.mem_map.mpr ⟨n, e, (Sum.inr.inj z).symm⟩))]
      exact ih nd.2 e
theorem kvN_put {ns : List (Str × Int)} {n : Str × Int} (h : n.1 ∉ ns.map (·.1)) : putK (kvN ns) (Sum.inr n.1) (.int n.2) = kvN (ns ++ [n]) := by
  rw [putK_new _ (kvN_none h)]
  unfold kvN
  rw [List.map_append]
  rfl
theorem kvN_keys (ns : List (Str × Int)) : (kvN ns).map (·.1) = (ns.map (·.1)).map Sum.inr := by
  unfold kvN
  rw [List.map_map, List.map_map]
  rfl
theorem take_nodup {α : Type} {l : List α} (h : l.Nodup) {i : Nat} {x : α} (e : l[i]? = some x) : x ∉ l.take i := by
  intro m
  obtain ⟨j, hj⟩ := List.mem_iff_getElem?.mp m
  have hlt : j < i := by
    have := (List.getElem?_eq_some_iff.mp hj).1
    rw [List.length_take] at this
    omega
  rw [List.getElem?_take_of_lt hlt] at hj
  obtain ⟨a1, a2⟩ := List.getElem?_eq_some_iff.mp e
  obtain ⟨b1, b2⟩ := List.getElem?_eq_some_iff.mp hj
  have := (List.getElem_inj h).mp (a2.trans b2.symm)
  omega
/-- a sorted list of keys gives the sorted rows -/
theorem rows_of_keys {α κ : Type} [DecidableEq κ] {key : α → κ} {cs : List α} (nd : (cs.map key).Nodup) {ks : List κ} (p : ks.Perm (cs.map key)) : ∃ ds : List α, ds.map key = ks ∧ ds.length = cs.length ∧ ∀ c, c ∈ ds ↔ c ∈ cs := by
  have h : ∀ (ks : List κ), (∀ k ∈ ks, k ∈ cs.map key) → ∃ ds : List α, ds.map key = ks ∧ ∀ c ∈ ds, c ∈ cs := by
    intro ks
    induction ks with
    | nil => exact fun _ => ⟨[], rfl, fun _ h => nomatch h⟩
    | cons k ks ih =>
      intro h
      obtain ⟨ds, e, m⟩ := ih fun j hj => h j (List.mem_cons_of_mem _ hj)
      obtain ⟨c, hc, ec⟩ := List.mem_map.mp (h k (List.mem_cons_self ..))
      refine ⟨c :: ds, by rw [List.map_cons, e, ec], fun d hd => ?_⟩
      rcases List.mem_cons.mp hd with z | z
      · rw [z]; exact hc
      · exact m d z
  obtain ⟨ds, e, m⟩ := h ks fun k hk => p.mem_iff.mp hk
  refine ⟨ds, e, ?_, fun c => ⟨m c, fun hc => ?_⟩⟩
  · have := p.length_eq
    rw [← e, List.length_map, List.length_map] at this
    exact this
  · have : key c ∈ ds.map key := by
      rw [e]
      exact p.mem_iff.mpr (List.mem_map.mpr ⟨c, hc, rfl⟩)
    obtain ⟨d, hd, ed⟩ := List.mem_map.mp this
    have hd2 := m d hd
    have e1 := rowAt_mem nd hc
    have e2 := rowAt_mem nd hd2
    rw [ed, e1] at e2
    rw [Option.some.inj e2]
    exact hd
theorem map_at {α : Type} {f : α → PyData} {l : List α} {i : Nat} {d : PyData} (h : (l.map f)[i]? = some d) : ∃ a, l[i]? = some a ∧ d = f a := by
  rw [List.getElem?_map] at h
  cases e : l[i]? with
  | none => rw [e] at h; cases h
  | some a => rw [e] at h; exact ⟨a, rfl, (Option.some.inj h).symm⟩
theorem dp_name {K : PySem.W.Frag} {H : Hp} {x : V} {n : Str × Int} (h : Dp K H x (dName n)) : ∃ t, x = .ref t ∧ SqT K H t [.str n.1, .int n.2] := by
  unfold dName at h
  cases h with
  | tup hs ha =>
    cases ha with
    | cons h1 ha => cases ha with
      | cons h2 ha =>
        cases ha
        cases h1
        cases h2
        exact ⟨_, rfl, hs⟩
def NmsI (K : PySem.W.Frag) (H : Hp) (p d : Addr) (ns : List (Str × Int)) (i : Nat) (σ : L2.St) (H' : Hp) : Prop := ∃ v2 v3 v4, σ = [some (.ref p), some (.ref d), v2, v3, v4] ∧ Ex H H' ∧ H d = none ∧ H' d = some (.dK (kvN (ns.take i)))
section
variable {P : Program} {w : World} {K : PySem.W.Frag} {mg : Str → Option Value} {base : Heap}
theorem c_heap_names (T : Tx w K mg) : Cal P w K mg base CX0 3 "heap_names" ["names"] (spNames K) := by
  refine cal_mk T.D_heap_names T.m_heap_names sc_heap_names (fun _ _ _ _ _ _ us hl => match us, hl with | [_], _ => rfl) (fun vs H Q E h => ?_) (fun f cdv A outer s H vs Q E hr h => ?_)
  · obtain ⟨p, xs, ns, rfl, _⟩ := h
    rfl
  · obtain ⟨p, xs, ns, rfl, hs, hd, hok, nd, hl, k⟩ := h
    have hu := hu_of hr
    have hlen : xs.length = ns.length := by rw [L3.DpAll.length hd, List.length_map]
    refine ⟨_, ((pss_cons (ps_set (i := 1) sc_heap_names.nd rfl (Or.inr rfl) pe_dnewK)
  (pss_cons (ps_for PassesOwn.never rfl (pi_enumA rfl T.f_enumerate (pa_cons (pv 0) pa_nil)) (pg_tup (n := 2) rfl (pgs_cons (pg_name (i := 2) sc_heap_names.nd rfl (Or.inl rfl)) (pgs_cons (pg_tup (n := 2) rfl (pgs_cons (pg_name (i := 3) sc_heap_names.nd rfl (Or.inl rfl)) (pgs_cons (pg_name (i := 4) sc_heap_names.nd rfl (Or.inl rfl)) pgs_nil))) pgs_nil))) (pss_cons (ps_if (pt_not (pt_val (by exact pe_cal (c_is_name T) hr (by decide) rfl pass0 (pa_cons (pv 3) pa_nil)))) (pss_one ps_never) pss_nil)
  (pss_cons (ps_if (pt_cmp (pc_din hu (pv 3) (pv 1)) rfl) (pss_one ps_never) pss_nil)
  (pss_cons (ps_if (pt_not (pt_chain o_le o_le pe_int (pv 4) (by exact C8.pe_gc rfl T.g_MOST_VALUE))) (pss_one ps_never) pss_nil)
  (pss_one (ps_dput hu (pv 1) (pv 3) (pv 4) rfl))))))
  (pss_one (ps_ret (pe_callTy cr_tupOf rfl T.f_tuple (by decide +kernel) (pa_cons (pe_lc (own := [("name", 3)]) rfl sc_heap_names.nd (pi_list (pe_callB (call_sortedD rfl) rfl T.f_sorted (by decide +kernel) (pa_cons (pv 1) pa_nil))) (blkOk_by (N := ["names", "known", "at", "name", "number"]) (sc := defScope s_heap_names) (by decide +kernel)) (fun _ _ _ _ _ => (pg_name (i := 3) sc_heap_names.nd rfl (Or.inl rfl))) (fun _ _ _ _ _ => pts_nil) (fun _ _ _ _ _ => (pe_tup (pa_cons (pv 3) (pa_cons (pe_dget hu (pv 1) (pv 3) (fun _ _ => rfl)) pa_nil))))) pa_nil))))))), ?_⟩
    dsimp only [cxOf, Cx.nox]
    repeat walk_at "st"
    refine k_dnew fun d H1 hd0 e1 h1 => ?_
    repeat walk_at "st"
    refine k_enumAE (xs := xs) hs e1 fun J G hG wk => ?_
    refine for_it wk (NmsI K H p d ns) ⟨none, none, none, rfl, e1, hd0, h1⟩ (fun i σ' H' _ ⟨_, _, _, _, e, n0, h2⟩ => hG _ e) (fun i x σ' H' H'' hi ⟨v2, v3, v4, es, e, n0, h2⟩ y => ?_) (fun σ' H' ⟨v2, v3, v4, es, e, n0, h2⟩ => ?_)
    · subst es
      obtain ⟨t0, x0, y0, rfl, ht0, rfl, ex0, ey0⟩ := y
      cases ex0
      obtain ⟨d0, hd1, hdp⟩ := L3.DpAll.get hd ey0
      obtain ⟨n, hn, rfl⟩ := map_at hd1
      obtain ⟨tn, rfl, hsn⟩ := dp_name hdp
      have e3 : Ex H' (upd H' t0 (.tup [.int (i : Nat), .ref tn])) := Ex.new ht0
      have h3 : upd H' t0 (.tup [.int (i : Nat), .ref tn]) t0 = some (.tup [.int (i : Nat), .ref tn]) := upd_same
      generalize upd H' t0 (.tup [.int (i : Nat), .ref tn]) = H3 at e3 h3
      have h2' := e3.get h2
      have eH3 : Ex H H3 := e.trans e3
      have hmem : n ∈ ns := List.mem_of_getElem? hn
      obtain ⟨o1, o2, o3, o4, _⟩ := hok n hmem
      have nin : n.1 ∉ (ns.take i).map (·.1) := by
        rw [List.map_take]
        exact take_nodup nd (by rw [List.getElem?_map, hn]; rfl)
      repeat walk_at "st"
      refine k_gTup (eH3.sqT hsn) rfl ?_
      repeat walk_at "st"
      refine ⟨n.1, rfl, o2, fun H4 e4 => ?_⟩
      rw [o1]
      have h4 := e4.get h2'
      repeat walk_at "st"
      refine k_dinE (k := Sum.inr n.1) rfl (.inl h4) ?_
      rw [kvN_none nin]
      repeat walk_at "st"
      rw [decide_eq_true o3]
      refine iteT ?_
      repeat walk_at "st"
      rw [decide_eq_true o4]
      repeat walk_at "st"
      refine k_dputE (k := Sum.inr n.1) rfl h4 (by unfold kvN; rw [List.length_map, List.length_take, sizeLine_eq]; omega) fun H5 b5 h5 => ?_
      rw [kvN_put nin] at h5
      have et : ns.take i ++ [n] = ns.take (i + 1) := by rw [List.take_add_one, hn]; rfl
      rw [et] at h5
      exact ⟨_, _, _, rfl, ExB.old (eH3.trans e4) n0 b5, n0, h5⟩
    · subst es
      rw [hlen, List.take_length] at h2
      repeat walk_at "st"
      refine ⟨d, kvN ns, ns.map (·.1), rfl, .inl h2, kvN_keys ns, by rw [List.length_map]; omega, fun ys pl pm so np => ?_⟩
      obtain ⟨ds, eds, eln, emem⟩ := rows_of_keys (key := fun n : Str × Int => n.1) nd pm
      have hno : NmOk ds := by
        have q := strs_strict pm so nd
        rw [← eds, List.pairwise_map] at q
        exact q
      have e4 : Ex H' (upd H' pl (.lst (ys.map V.str))) := Ex.new np
      have h4 : upd H' pl (.lst (ys.map V.str)) pl = some (.lst (ys.map V.str)) := upd_same
      generalize upd H' pl (.lst (ys.map V.str)) = H4 at e4 h4
      refine ⟨pl, rfl, ⟨_, .inl (.inl h4)⟩, ?_⟩
      have yl : (ys.map V.str).length = ds.length := by rw [List.length_map, ← eds, List.length_map]
      refine lc_rel (walk_list (xs := ys.map V.str)) (fun _ => true) (fun i y H' => ∃ n t, ds[i]? = some n ∧ y = V.ref t ∧ H' t = some (.tup [.str n.1, .int n.2])) (by rw [yl, eln]; omega)
        (fun i y H H' e ⟨n, t, a, b, c⟩ => ⟨n, t, a, b, e _ _ (fun l z => nomatch z) c⟩) (fun H' e => .inl (.inl (e.get h4))) (fun i x H' H'' R1 R0 hi e5 y k1 k0 => ?_) (fun D H' vs hD e5 hL pr => ?_)
      · obtain ⟨rfl, y⟩ := y
        rw [List.getElem?_map, ← eds, List.getElem?_map] at y
        cases en : ds[i]? with
        | none => rw [en] at y; cases y
        | some n =>
          rw [en] at y
          cases y
          have h5 := e5.get (e4.get h2)
          have hv := kvN_some nd ((emem n).mp (List.mem_of_getElem? en))
          refine ⟨rfl, ?_⟩
          repeat walk_at "st"
          dsimp only
          refine k_dgetE (k := Sum.inr n.1) rfl (.inl h5) hv ?_
          repeat walk_at "st"
          intro t H6 ht e6 h6
          exact k1 _ _ e6 rfl ⟨n, t, en, rfl, h6⟩
      · rw [filter_true] at pr
        repeat walk_at "st"
        refine k_tupL (.inl (.inl hL)) fun l H6 hl6 e6 h6 => ?_
        refine k _ _ ds (((e.trans e4).trans e5).trans e6) (.tup (.inl (.inl h6)) (dpAll_of ?_ fun j v dd q1 q2 => ?_)) hno emem eln
        · have := Paired.length pr
          rw [List.length_range] at this
          rw [List.length_map, ← this, yl]
        · obtain ⟨n, hn, rfl⟩ := map_at q2
          have hj : j < ds.length := (List.getElem?_eq_some_iff.mp hn).1
          obtain ⟨y, a, n', t, b1, b2, b3⟩ := Paired.get' pr (i := j) (x := j) (by rw [List.getElem?_range (by omega)])
          rw [hn] at b1
          cases b1
          rw [q1] at a
          cases a
          rw [b2]
          exact .tup (.inl (.inl (e6.get b3))) (.cons (.str _) (.cons (.int _) .nil))
end


def marks : List Str := ["a", "b", "c"]
def CellIn (c : Cell) : Prop := (1 ≤ c.a ∧ c.a ≤ 9999) ∧ inV (.str c.m) (marks.map V.str) = true ∧ (0 ≤ c.l ∧ c.l ≤ 9999) ∧ (1 ≤ c.s ∧ c.s ≤ 12) ∧ PyData.strOk c.m = true
def spCells (K : PySem.W.Frag) : Sp := fun vs H Q _ => ∃ (p : Addr) (xs : List V) (cs : List Cell), vs = [.ref p] ∧ SeqOf K H p xs ∧ DpAll K H xs (cs.map dCell) ∧ (∀ c, c ∈ cs → CellIn c) ∧ (cs.map kC).Nodup ∧ cs.length ≤ 60 ∧
  ∀ H' t cs', Ex H H' → Dp K H' (.ref t) (dCells cs') → CsOk cs' → (∀ c, c ∈ cs' ↔ c ∈ cs) → cs'.length = cs.length → Q (.ref t) H'
theorem dp_cell {K : PySem.W.Frag} {H : Hp} {x : V} {c : Cell} (h : Dp K H x (dCell c)) : ∃ t, x = .ref t ∧ SqT K H t (fullT c) := by
  unfold dCell at h
  cases h with
  | tup hs ha =>
    cases ha with
    | cons h1 ha => cases ha with
      | cons h2 ha => cases ha with
        | cons h3 ha => cases ha with
          | cons h4 ha =>
            cases ha
            cases h1
            cases h2
            cases h3
            cases h4
            exact ⟨_, rfl, hs⟩
theorem dp_cell' {K : PySem.W.Frag} {H : Hp} {t : Addr} {c : Cell} (h : SqT K H t (fullT c)) : Dp K H (.ref t) (dCell c) := .tup h (.cons (.int _) (.cons (.str _) (.cons (.int _) (.cons (.int _) .nil))))
theorem TFull_ex : ∀ (H H' : Hp) (c : Cell) (v : V), Ex H H' → TFull H c v → TFull H' c v := fun _ _ _ _ e h => h.ex e
theorem TRow_ex : ∀ (H H' : Hp) (c : Cell) (v : V), Ex H H' → TRow H c v → TRow H' c v := fun _ _ _ _ e h => h.ex e
def ClsI (K : PySem.W.Frag) (H : Hp) (p d : Addr) (cs : List Cell) (i : Nat) (σ : L2.St) (H' : Hp) : Prop := ∃ v2 v3 v4 v5 v6 kvs, σ = [some (.ref p), some (.ref d), v2, v3, v4, v5, v6] ∧ Ex H H' ∧ H d = none ∧ H' d = some (.dK kvs) ∧ RowsK kC TFull H' kvs (cs.take i)
theorem TFull.exB {H H' : Hp} {d : Addr} {kvs : List (L2.Key × V)} {c : Cell} {v : V} (hd : H d = some (.dK kvs)) (e : ExB d H H') (h : TFull H c v) : TFull H' c v :=
  let ⟨t, h1, h2⟩ := h; ⟨t, h1, e _ _ (ne_of h2 hd (fun z => nomatch z)) h2⟩
theorem TRow.exB {H H' : Hp} {d : Addr} {kvs : List (L2.Key × V)} {c : Cell} {v : V} (hd : H d = some (.dK kvs)) (e : ExB d H H') (h : TRow H c v) : TRow H' c v :=
  let ⟨t, h1, h2⟩ := h; ⟨t, h1, e _ _ (ne_of h2 hd (fun z => nomatch z)) h2⟩
theorem cellNew {cs : List Cell} (nd : (cs.map kC).Nodup) {i : Nat} {c : Cell} (hc : cs[i]? = some c) : rowAt kC (cs.take i) (kC c) = none := by
  refine rowAt_none' fun d hd e => ?_
  have : kC c ∉ (cs.map kC).take i := take_nodup nd (by rw [List.getElem?_map, hc]; rfl)
  rw [← List.map_take] at this
  exact this (List.mem_map.mpr ⟨d, hd, e⟩)
section
variable {P : Program} {w : World} {K : PySem.W.Frag} {mg : Str → Option Value} {base : Heap}
theorem c_heap_cells (T : Tx w K mg) : Cal P w K mg base CX0 3 "heap_cells" ["cells"] (spCells K) := by
  refine cal_mk T.D_heap_cells T.m_heap_cells sc_heap_cells (fun _ _ _ _ _ _ us hl => match us, hl with | [_], _ => rfl) (fun vs H Q E h => ?_) (fun f cdv A outer s H vs Q E hr h => ?_)
  · obtain ⟨p, xs, ns, rfl, _⟩ := h
    rfl
  · obtain ⟨p, xs, cs, rfl, hs, hd, hok, nd, hl, k⟩ := h
    have hu := hu_of hr
    have hlen : xs.length = cs.length := by rw [L3.DpAll.length hd, List.length_map]
    refine ⟨_, ((pss_cons (ps_set (i := 1) sc_heap_cells.nd rfl (Or.inr rfl) pe_dnewK)
  (pss_cons (ps_for PassesOwn.never rfl (pi_enumA rfl T.f_enumerate (pa_cons (pv 0) pa_nil)) (pg_tup (n := 2) rfl (pgs_cons (pg_name (i := 2) sc_heap_cells.nd rfl (Or.inl rfl)) (pgs_cons (pg_tup (n := 4) rfl (pgs_cons (pg_name (i := 3) sc_heap_cells.nd rfl (Or.inl rfl)) (pgs_cons (pg_name (i := 4) sc_heap_cells.nd rfl (Or.inl rfl)) (pgs_cons (pg_name (i := 5) sc_heap_cells.nd rfl (Or.inl rfl)) (pgs_cons (pg_name (i := 6) sc_heap_cells.nd rfl (Or.inl rfl)) pgs_nil))))) pgs_nil))) (pss_cons (ps_if (pt_not (pt_chain o_le o_le pe_int (pv 3) (by exact C8.pe_gc rfl T.g_MOST_VALUE))) (pss_one ps_never) pss_nil)
  (pss_cons (ps_if (pt_cmp (pc_din hu (pv 3) (pv 1)) rfl) (pss_one ps_never) pss_nil)
  (pss_cons (ps_if (pt_cmpR op_notIn_seq (pv 4) (by exact C8.pe_gc rfl T.g_MARKS_OF_CELLS) rfl) (pss_one ps_never) pss_nil)
  (pss_cons (ps_if (pt_not (pt_chain o_le o_le pe_int (pv 5) (by exact C8.pe_gc rfl T.g_MOST_VALUE))) (pss_one ps_never) pss_nil)
  (pss_cons (ps_if (pt_not (pt_chain o_le o_le pe_int (pv 6) (by exact C8.pe_gc rfl T.g_WHOLE))) (pss_one ps_never) pss_nil)
  (pss_one (ps_dput hu (pv 1) (pv 3) (pe_tup (pa_cons (pv 3) (pa_cons (pv 4) (pa_cons (pv 5) (pa_cons (pv 6) pa_nil))))) rfl))))))))
  (pss_one (ps_ret (pe_callTy cr_tupOf rfl T.f_tuple (by decide +kernel) (pa_cons (pe_lc (own := [("address", 3)]) rfl sc_heap_cells.nd (pi_list (pe_callB (call_sortedDI rfl) rfl T.f_sorted (by decide +kernel) (pa_cons (pv 1) pa_nil))) (blkOk_by (N := ["cells", "known", "at", "address", "mark", "link", "share"]) (sc := defScope s_heap_cells) (by decide +kernel)) (fun _ _ _ _ _ => (pg_name (i := 3) sc_heap_cells.nd rfl (Or.inl rfl))) (fun _ _ _ _ _ => pts_nil) (fun _ _ _ _ _ => (pe_dget hu (pv 1) (pv 3) (fun _ _ => rfl)))) pa_nil))))))), ?_⟩
    dsimp only [cxOf, Cx.nox]
    repeat walk_at "st"
    refine k_dnew fun d H1 hd0 e1 h1 => ?_
    repeat walk_at "st"
    refine k_enumAE (xs := xs) hs e1 fun J G hG wk => ?_
    refine for_it wk (ClsI K H p d cs) ⟨none, none, none, none, none, [], rfl, e1, hd0, h1, .nil⟩ (fun i σ' H' _ ⟨_, _, _, _, _, _, _, e, n0, h2, _⟩ => hG _ e) (fun i x σ' H' H'' hi ⟨v2, v3, v4, v5, v6, kvs, es, e, n0, h2, hr2⟩ y => ?_) (fun σ' H' ⟨v2, v3, v4, v5, v6, kvs, es, e, n0, h2, hr2⟩ => ?_)
    · subst es
      obtain ⟨t0, x0, y0, rfl, ht0, rfl, ex0, ey0⟩ := y
      cases ex0
      obtain ⟨d0, hd1, hdp⟩ := L3.DpAll.get hd ey0
      obtain ⟨c, hn, rfl⟩ := map_at hd1
      obtain ⟨tn, rfl, hsn⟩ := dp_cell hdp
      have e3 : Ex H' (upd H' t0 (.tup [.int (i : Nat), .ref tn])) := Ex.new ht0
      have h3 : upd H' t0 (.tup [.int (i : Nat), .ref tn]) t0 = some (.tup [.int (i : Nat), .ref tn]) := upd_same
      generalize upd H' t0 (.tup [.int (i : Nat), .ref tn]) = H3 at e3 h3
      have h2' := e3.get h2
      have hr3 := RowsK.ex TFull_ex e3 hr2
      have eH3 : Ex H H3 := e.trans e3
      have hmem : c ∈ cs := List.mem_of_getElem? hn
      obtain ⟨⟨o1, o2⟩, o3, ⟨o4, o5⟩, ⟨o6, o7⟩, _⟩ := hok c hmem
      have nin := cellNew nd hn
      have nv : valV kvs (Sum.inl c.a) = none := by
        have := hr3.val (kC c)
        rw [nin] at this
        exact this
      repeat walk_at "st"
      refine k_gTup (eH3.sqT hsn) rfl ?_
      unfold fullT
      repeat walk_at "st"
      rw [decide_eq_true o1]
      refine iteT ?_
      repeat walk_at "st"
      rw [decide_eq_true o2]
      repeat walk_at "st"
      refine k_dinE (k := Sum.inl c.a) rfl (.inl h2') ?_
      rw [nv]
      repeat walk_at "st"
      refine k_in (xs := marks.map V.str) (Or.inr (T.t_MARKS_OF_CELLS H3)) rfl (by decide +kernel) ?_
      rw [if_pos rfl, o3]
      repeat walk_at "st"
      rw [decide_eq_true o4]
      refine iteT ?_
      repeat walk_at "st"
      rw [decide_eq_true o5]
      repeat walk_at "st"
      rw [decide_eq_true o6]
      refine iteT ?_
      repeat walk_at "st"
      rw [decide_eq_true o7]
      repeat walk_at "st"
      intro t H4 ht e4 h4
      have h2'' := e4.get h2'
      repeat walk_at "st"
      refine k_dputE (k := Sum.inl c.a) rfl h2'' (by rw [hr3.length, List.length_take, sizeLine_eq]; omega) fun H5 b5 h5 => ?_
      have et : putR kC (cs.take i) c = cs.take (i + 1) := by rw [putR_new nin, List.take_add_one, hn]; rfl
      have hr5 := (RowsK.ex TFull_ex e4 hr3).put (c := c) (v := .ref t) ⟨t, rfl, h4⟩
      rw [et] at hr5
      exact ⟨_, _, _, _, _, _, rfl, ExB.old (eH3.trans e4) n0 b5, n0, h5, hr5.mono fun c v h => TFull.exB h2'' b5 h⟩
    · subst es
      rw [hlen, List.take_length] at hr2
      repeat walk_at "st"
      have hkeys : kvs.map (·.1) = (cs.map (·.a)).map Sum.inl := by
        rw [hr2.keys, List.map_map]
        rfl
      have nd' : (cs.map (·.a)).Nodup := by
        have : cs.map kC = (cs.map (·.a)).map Sum.inl := by rw [List.map_map]; rfl
        rw [this] at nd
        exact List.Pairwise.of_map Sum.inl (fun a b h e => h (by rw [e])) nd
      refine ⟨d, kvs, cs.map (·.a), rfl, .inl h2, hkeys, by rw [List.length_map]; omega, fun ys pl pm so np => ?_⟩
      obtain ⟨ds, eds, eln, emem⟩ := rows_of_keys (key := fun n : Cell => n.a) nd' pm
      have hno : CsOk ds := by
        have q := ints_strict pm so nd'
        rw [← eds, List.pairwise_map] at q
        exact q
      have e4 : Ex H' (upd H' pl (.lst (ys.map V.int))) := Ex.new np
      have h4 : upd H' pl (.lst (ys.map V.int)) pl = some (.lst (ys.map V.int)) := upd_same
      generalize upd H' pl (.lst (ys.map V.int)) = H4 at e4 h4
      refine ⟨pl, rfl, ⟨_, .inl (.inl h4)⟩, ?_⟩
      have yl : (ys.map V.int).length = ds.length := by rw [List.length_map, ← eds, List.length_map]
      refine lc_rel (walk_list (xs := ys.map V.int)) (fun _ => true) (fun i y H' => ∃ n t, ds[i]? = some n ∧ y = V.ref t ∧ H' t = some (.tup (fullT n))) (by rw [yl, eln]; omega)
        (fun i y H H' e ⟨n, t, a, b, c⟩ => ⟨n, t, a, b, e _ _ (fun l z => nomatch z) c⟩) (fun H' e => .inl (.inl (e.get h4))) (fun i x H' H'' R1 R0 hi e5 y k1 k0 => ?_) (fun D H' vs hD e5 hL pr => ?_)
      · obtain ⟨rfl, y⟩ := y
        rw [List.getElem?_map, ← eds, List.getElem?_map] at y
        cases en : ds[i]? with
        | none => rw [en] at y; cases y
        | some n =>
          rw [en] at y
          cases y
          have h5 := e5.get (e4.get h2)
          have hat := hr2.val (kC n)
          rw [rowAt_mem nd ((emem n).mp (List.mem_of_getElem? en))] at hat
          obtain ⟨v, hv, t, rfl, ht⟩ := hat
          refine ⟨rfl, ?_⟩
          dsimp only
          repeat walk_at "st"
          refine k_dgetE (k := Sum.inl n.a) rfl (.inl h5) hv ?_
          exact k1 _ _ (Ex.refl _) rfl ⟨n, t, en, rfl, e5.get (e4.get ht)⟩
      · rw [filter_true] at pr
        repeat walk_at "st"
        refine k_tupL (.inl (.inl hL)) fun l H6 hl6 e6 h6 => ?_
        refine k _ _ ds (((e.trans e4).trans e5).trans e6) (.tup (.inl (.inl h6)) (dpAll_of ?_ fun j v dd q1 q2 => ?_)) hno emem eln
        · have := Paired.length pr
          rw [List.length_range] at this
          rw [List.length_map, ← this, yl]
        · obtain ⟨n, hn, rfl⟩ := map_at q2
          have hj : j < ds.length := (List.getElem?_eq_some_iff.mp hn).1
          obtain ⟨y, a, n', t, b1, b2, b3⟩ := Paired.get' pr (i := j) (x := j) (by rw [List.getElem?_range (by omega)])
          rw [hn] at b1
          cases b1
          rw [q1] at a
          cases a
          rw [b2]
          exact dp_cell' (.inl (.inl (e6.get b3)))
end


def NmsIn (K : PySem.W.Frag) (H : Hp) (p : Addr) (ns : List (Str × Int)) : Prop := ∃ xs, SeqOf K H p xs ∧ DpAll K H xs (ns.map dName) ∧ (∀ n, n ∈ ns → NmIn n) ∧ (ns.map (·.1)).Nodup ∧ ns.length ≤ 20
def ClsIn (K : PySem.W.Frag) (H : Hp) (p : Addr) (cs : List Cell) : Prop := ∃ xs, SeqOf K H p xs ∧ DpAll K H xs (cs.map dCell) ∧ (∀ c, c ∈ cs → CellIn c) ∧ (cs.map kC).Nodup ∧ cs.length ≤ 60
def spInit (K : PySem.W.Frag) : Sp := fun vs H Q _ => ∃ (p pn pc dx : Addr) (ns : List (Str × Int)) (cs : List Cell), vs = [.ref p, .ref pn, .ref pc] ∧ H p = some (.ins (hC K) dx []) ∧ NmsIn K H pn ns ∧ ClsIn K H pc cs ∧
  ∀ H' ns' cs', ExB p H H' → HeapAt K H' p ns' cs' → (∀ n, n ∈ ns' ↔ n ∈ ns) → (∀ c, c ∈ cs' ↔ c ∈ cs) → Q .non H'
/-- {cell[0]: cell[1:] for cell in cells} -/
theorem cells_tup {K : PySem.W.Frag} {H : Hp} {v : V} {cs : List Cell} (h : Dp K H v (dCells cs)) : ∃ (t : Addr) (xs : List V), v = .ref t ∧ SqT K H t xs ∧ xs.length = cs.length ∧ ∀ (i : Nat) (c : Cell), cs[i]? = some c → ∃ q, xs[i]? = some (V.ref q) ∧ SqT K H q (fullT c) := by
  unfold dCells at h
  cases h with
  | tup hs ha =>
    rename_i xs
    have hl : xs.length = cs.length := by rw [← List.length_map (f := dCell)]; exact L3.DpAll.length ha
    refine ⟨_, _, rfl, hs, hl, fun i c hc => ?_⟩
    obtain ⟨hi, -⟩ := List.getElem?_eq_some_iff.mp hc
    obtain ⟨v, hv⟩ : ∃ v, xs[i]? = some v := ⟨xs[i]'(by omega), List.getElem?_eq_getElem (by omega)⟩
    obtain ⟨d, hd, hdp⟩ := L3.DpAll.get ha hv
    rw [List.getElem?_map, hc] at hd
    cases hd
    obtain ⟨t, rfl, ht⟩ := dp_cell hdp
    exact ⟨t, hv, ht⟩
theorem TRow_d : ∀ (H : Hp) (D : Addr) (kvs kvs' : List (L2.Key × V)) (c : Cell) (v : V), H D = some (.dK kvs) → TRow H c v → TRow (upd H D (.dK kvs')) c v := fun H D kvs kvs' c v hd h => TRow.exB hd ExB.upd h
theorem cut_full (c : Cell) : cutV (fullT c) (some 1) none = rowT c := rfl
section
variable {P : Program} {w : World} {K : PySem.W.Frag} {mg : Str → Option Value} {base : Heap}
theorem i_Heap (T : Tx w K mg) : Mak P w K mg base CX0 4 "Heap" (hC K) ["self", "names", "cells"] (spInit K) := by
  refine mak_mk T.D_Heap_init T.mk_Heap (by obtain ⟨u, h1, h2⟩ := T.c_Heap; cases h2; exact h1) sc_Heap_init (fun _ _ _ _ _ _ us hl => match us, hl with | [_, _, _], _ => rfl) (fun vs H Q E h => ?_) (fun f cdv A outer s H vs Q E hr h => ?_)
  · obtain ⟨p, pn, pc, dx, ns, cs, rfl, _⟩ := h
    rfl
  · obtain ⟨p, pn, pc, dx, ns, cs, rfl, hp, ⟨xs, hsn, hdn, hnok, hnnd, hnl⟩, ⟨ys, hsc, hdc, hcok, hcnd, hcl⟩, k⟩ := h
    refine ⟨_, ((pss_cons (ps_fld (pv 0) (by exact pe_cal (c_heap_names T) hr (by decide) rfl pass0 (pa_cons (pv 1) pa_nil)) rfl)
  (pss_cons (ps_fld (pv 0) (by exact pe_cal (c_heap_cells T) hr (by decide) rfl pass0 (pa_cons (pv 2) pa_nil)) rfl)
  (pss_one (ps_fld (pv 0) (pe_dc (own := [("cell", 3)]) rfl sc_Heap_init.nd (pi_tup (pe_fld (pv 0) rfl)) (blkOk_by (N := ["self", "names", "cells", "cell"]) (sc := defScope s_Heap_init) (by decide +kernel)) (fun _ _ _ _ _ => (pg_name (i := 3) sc_Heap_init.nd rfl (Or.inl rfl))) (fun _ _ _ _ _ => pts_nil) (fun _ _ _ _ _ => (pe_ix (ix_tupK (K := K) rfl) (pv 3) pe_int (fun _ _ => rfl))) (fun _ _ _ _ _ => (pe_slice (sl_tupK (K := K) rfl) (pv 3) (po_some pe_int) po_none))) rfl))))), ?_⟩
    dsimp only [cxOf, Cx.nox]
    repeat walk_at "st"
    refine ⟨pn, xs, ns, rfl, hsn, hdn, hnok, hnnd, hnl, fun H1 tn ns' e1 dn1 no1 mem1 ln1 => ?_⟩
    repeat walk_at "st"
    have hp1 := e1.get hp
    refine k_sfldE hp1 T.cls_Heap T.no_Heap_names (by decide) fun H2 b2 hp2 => ?_
    rw [hf_1] at hp2
    have dn2 := Dp_exB b2 hp1 _ _ dn1
    have sc2 : SeqOf K H2 pc ys := (SeqOf.ex e1 hsc).elim (fun h => .inl (b2.sqL hp1 h)) fun h => .inr (b2.sqT hp1 h)
    have dc2 := DpAll_exB b2 hp1 _ _ (DpAll_ex e1 _ _ hdc)
    repeat walk_at "st"
    refine ⟨pc, ys, cs, rfl, sc2, dc2, hcok, hcnd, hcl, fun H3 tc cs' e3 dc3 co3 mem3 ln3 => ?_⟩
    repeat walk_at "st"
    have hp3 := e3.get hp2
    refine k_sfldE hp3 T.cls_Heap T.no_Heap_cells (show 1 < 1000 by decide) fun H4 b4 hp4 => ?_
    rw [hf_2] at hp4
    have dn4 := Dp_exB b4 hp3 _ _ (Dp_ex e3 _ _ dn2)
    have dc4 := Dp_exB b4 hp3 _ _ dc3
    obtain ⟨_, zs, et, hz, hzl, hzc⟩ := cells_tup dc4
    cases et
    repeat walk_at "st"
    refine k_fldE hp4 T.cls_Heap T.no_Heap_cells (hf2_cells _ _) ?_
    repeat walk_at "st"
    refine dc_rows (walk_tup (xs := zs)) (key := kC) (T := TRow) (rows := cs') hzl.symm co3.nd (by omega) TRow_ex TRow_d (fun H' e => e.sqT hz) (fun i x H' H'' c R1 R0 hc e y k1 => ?_) (fun D H' kvs hD e hk hr => ?_)
    · obtain ⟨rfl, y⟩ := y
      obtain ⟨q, hq, hsq⟩ := hzc i c hc
      rw [hq] at y
      cases y
      refine ⟨rfl, ?_⟩
      have hsq' := e.sqT hsq
      unfold fullT at hsq'
      repeat walk_at "st"
      refine k_slTA hsq' (show ¬ (HT.sIx 4 0 (some 1) = 0 ∧ HT.sIx 4 4 none = 4) by decide) fun l H5 hl5 e5 h5 => ?_
      exact k1 _ _ e5 ⟨l, rfl, h5⟩
    · repeat walk_at "st"
      have hp5 := e.get hp4
      refine k_sfldE hp5 T.cls_Heap T.no_Heap__rows (show 2 < 1000 by decide) fun H6 b6 hp6 => ?_
      rw [hf_3] at hp6
      repeat walk_at "st"
      refine k _ ns' cs' ?_ ⟨dx, tn, tc, D, kvs, hp6, Dp_exB b6 hp5 _ _ (Dp_ex e _ _ dn4), Dp_exB b6 hp5 _ _ (Dp_ex e _ _ dc4), b6 _ _ (ne_of hk hp5 (fun z => nomatch z)) hk, hr.mono fun c v ⟨t, h1, h2⟩ => ⟨t, h1, b6 _ _ (ne_of h2 hp5 (fun z => nomatch z)) h2⟩, by omega, by omega, co3, no1, fun n hn => (hnok n ((mem1 n).mp hn)).2.2.2.2, fun c hc => ⟨(hcok c ((mem3 c).mp hc)).2.2.2.2, by have := (hcok c ((mem3 c).mp hc)).1; omega⟩⟩ mem1 mem3
      exact (ExB.of e1).trans (b2.trans ((ExB.of e3).trans (b4.trans ((ExB.of e).trans b6))))
end


theorem dataLt_head {x y : PyData} (h : alike x y = true) (e : PyData.eqv x y = false) (xs ys : List PyData) : dataLt (.tuple (x :: xs)) (.tuple (y :: ys)) = dataLt x y := by
  rw [dataLt_tuple, dataLt_cons h, e, if_neg Bool.false_ne_true]
theorem sort_names {ns : List (Str × Int)} (h : NmOk ns) : (ns.map dName).mergeSort (dataLe false id) = ns.map dName := by
  refine List.mergeSort_of_pairwise ?_
  rw [List.pairwise_map]
  refine h.imp fun {a b} h => ?_
  show (!dataLt (dName b) (dName a)) = true
  unfold dName
  have e : PyData.eqv (.str b.1) (.str a.1) = false := by
    simp only [PyData.eqv, beq_eq_false_iff_ne]
    intro z
    rw [z] at h
    exact str_lt_irrefl _ h
  rw [dataLt_head (by simp [alike]) e, dataLt_str, decide_eq_false (List.lt_asymm h)]
  rfl
theorem sort_cells {cs : List Cell} (h : CsOk cs) : (cs.map dCell).mergeSort (dataLe false id) = cs.map dCell := by
  refine List.mergeSort_of_pairwise ?_
  rw [List.pairwise_map]
  refine h.imp fun {a b} h => ?_
  show (!dataLt (dCell b) (dCell a)) = true
  unfold dCell
  have e : PyData.eqv (.int b.a) (.int a.a) = false := by
    simp only [PyData.eqv, beq_eq_false_iff_ne]
    omega
  rw [dataLt_head (by simp [alike]) e, dataLt_int, decide_eq_false (by omega)]
  rfl
theorem so_names {ns : List (Str × Int)} (h : ns.length ≤ 1000) : SortOk (ns.map dName) := by
  refine ⟨?_, .inl ?_, ?_, by rw [List.length_map]; exact h⟩
  · intro d hd e he
    obtain ⟨a, _, rfl⟩ := List.mem_map.mp hd
    obtain ⟨b, _, rfl⟩ := List.mem_map.mp he
    simp [dName, alike, alikeAll]
  · intro d hd
    obtain ⟨a, _, rfl⟩ := List.mem_map.mp hd
    exact ⟨_, _, rfl⟩
  · intro d hd
    obtain ⟨a, _, rfl⟩ := List.mem_map.mp hd
    simp [dName, PyData.depth, PyData.depthAll]
theorem so_cells {cs : List Cell} (h : cs.length ≤ 1000) : SortOk (cs.map dCell) := by
  refine ⟨?_, .inl ?_, ?_, by rw [List.length_map]; exact h⟩
  · intro d hd e he
    obtain ⟨a, _, rfl⟩ := List.mem_map.mp hd
    obtain ⟨b, _, rfl⟩ := List.mem_map.mp he
    simp [dCell, alike, alikeAll]
  · intro d hd
    obtain ⟨a, _, rfl⟩ := List.mem_map.mp hd
    exact ⟨_, _, rfl⟩
  · intro d hd
    obtain ⟨a, _, rfl⟩ := List.mem_map.mp hd
    simp [dCell, PyData.depth, PyData.depthAll]
theorem k_sortD {K : PySem.W.Frag} {H : Hp} {Q : VK} {p : Addr} {vs : List V} {ds : List PyData} (h : SeqOf K H p vs) (hd : DpAll K H vs ds) (so : SortOk ds) {es : List PyData} (e : ds.mergeSort (dataLe false id) = es) (q : ∀ l H1 vs', H l = none → Ex H H1 → H1 l = some (.lst vs') → DpAll K H1 vs' es → Q (.ref l) H1) : rSortD K [.ref p] H Q :=
  ⟨p, vs, ds, rfl, h, hd, so, fun l vs' n a => q l _ vs' n (Ex.new n) upd_same (DpAll_ex (Ex.new n) _ _ (by rw [e] at a; exact a))⟩
/-- a heap whose rows stand in a dict that is new since H0 -/
def HeapNew (K : PySem.W.Frag) (H0 H : Hp) (p : Addr) (ns : List (Str × Int)) (cs : List Cell) : Prop := ∃ dx tn tc d kvs, HeapA K H p ns cs dx tn tc d kvs ∧ H0 d = none
theorem HeapNew.at {K : PySem.W.Frag} {H0 H : Hp} {p : Addr} {ns : List (Str × Int)} {cs : List Cell} (h : HeapNew K H0 H p ns cs) : HeapAt K H p ns cs := let ⟨dx, tn, tc, d, kvs, h, _⟩ := h; ⟨dx, tn, tc, d, kvs, h⟩
theorem HeapNew.older {K : PySem.W.Frag} {H1 H0 H : Hp} {p : Addr} {ns : List (Str × Int)} {cs : List Cell} (e : Ex H1 H0) (h : HeapNew K H0 H p ns cs) : HeapNew K H1 H p ns cs := let ⟨dx, tn, tc, d, kvs, h, n⟩ := h; ⟨dx, tn, tc, d, kvs, h, e.none n⟩
def spFrom (K : PySem.W.Frag) : Sp := fun vs H Q _ => ∃ (pn pc : Addr) (xs ys : List V) (ms ns : List (Str × Int)) (cs : List Cell), vs = [.ref pn, .ref pc] ∧ SeqOf K H pn xs ∧ DpAll K H xs (ms.map dName) ∧ ms.length ≤ 20 ∧ (ms.map dName).mergeSort (dataLe false id) = ns.map dName ∧ NmOk ns ∧ ns.length ≤ 20 ∧ SeqOf K H pc ys ∧ DpAll K H ys (cs.map dCell) ∧ CsOk cs ∧ cs.length ≤ 60 ∧ (∀ n, n ∈ ns → PyData.strOk n.1 = true) ∧ (∀ c, c ∈ cs → PyData.strOk c.m = true ∧ c.a.natAbs ≤ 9999) ∧
  ∀ H' p, Ex H H' → HeapNew K H H' p ns cs → Q (.ref p) H'
section
variable {P : Program} {w : World} {K : PySem.W.Frag} {mg : Str → Option Value} {base : Heap}
theorem m_Heap (T : Tx w K mg) : Mak P w K mg base CX0 4 "Heap" (hC K) ["self", "names", "cells"] (spInit K) := i_Heap T
theorem c_heap_from (T : Tx w K mg) : Cal P w K mg base CX0 6 "heap_from" ["names", "cells"] (spFrom K) := by
  refine cal_mk T.D_heap_from T.m_heap_from sc_heap_from (fun _ _ _ _ _ _ us hl => match us, hl with | [_, _], _ => rfl) (fun vs H Q E h => ?_) (fun f cdv A outer s H vs Q E hr h => ?_)
  · obtain ⟨pn, pc, xs, ys, ms, ns, cs, rfl, _⟩ := h
    rfl
  · obtain ⟨pn, pc, xs, ys, ms, ns, cs, rfl, hsn, hdn, hml, hms, hno, hnl, hsc, hdc, hco, hcl, sn, sc, k⟩ := h
    refine ⟨_, ((pss_cons (ps_set (i := 2) sc_heap_from.nd rfl (Or.inl rfl) (by exact pe_mak (m_Heap T) hr (by decide) rfl pass0 (pa_cons (pe_tup pa_nil) (pa_cons (pe_tup pa_nil) pa_nil))))
  (pss_cons (ps_fld (pv 2) (pe_callTy cr_tupOf rfl T.f_tuple (by decide +kernel) (pa_cons (pe_callB (cr_sortD (hu64 hr)) rfl T.f_sorted (by decide +kernel) (pa_cons (pv 0) pa_nil)) pa_nil)) rfl)
  (pss_cons (ps_fld (pv 2) (pe_callTy cr_tupOf rfl T.f_tuple (by decide +kernel) (pa_cons (pe_callB (cr_sortD (hu64 hr)) rfl T.f_sorted (by decide +kernel) (pa_cons (pv 1) pa_nil)) pa_nil)) rfl)
  (pss_cons (ps_fld (pv 2) (pe_dc (own := [("cell", 3)]) rfl sc_heap_from.nd (pi_tup (pe_fld (pv 2) rfl)) (blkOk_by (N := ["names", "cells", "heap", "cell"]) (sc := defScope s_heap_from) (by decide +kernel)) (fun _ _ _ _ _ => (pg_name (i := 3) sc_heap_from.nd rfl (Or.inl rfl))) (fun _ _ _ _ _ => pts_nil) (fun _ _ _ _ _ => (pe_ix (ix_tupK (K := K) rfl) (pv 3) pe_int (fun _ _ => rfl))) (fun _ _ _ _ _ => (pe_slice (sl_tupK (K := K) rfl) (pv 3) (po_some pe_int) po_none))) rfl)
  (pss_one (ps_ret (pv 2)))))))), ?_⟩
    dsimp only [cxOf, Cx.nox]
    repeat walk_at "st"
    intro t1 H1 ht1 e1 h1
    repeat walk_at "st"
    intro t2 H2 ht2 e2 h2
    repeat walk_at "st"
    refine MakeK.of fun p H3 dx hp0 eP hpP => ?_
    have np : H p = none := (e1.trans e2).none hp0
    refine ⟨p, t1, t2, dx, [], [], rfl, hpP, ⟨[], .inr (.inl (.inl ((e2.trans eP).get h1))), .nil, (fun _ h => nomatch h), by simp, by simp⟩, ⟨[], .inr (.inl (.inl (eP.get h2))), .nil, (fun _ h => nomatch h), by simp, by simp⟩, fun H4 ns0 cs0 b4 hA mn mc => ?_⟩
    refine ⟨rfl, ?_⟩
    obtain ⟨dx, tn, tc, d, kvs, hA⟩ := hA
    have e4 : Ex H H4 := ExB.old ((e1.trans e2).trans eP) np b4
    repeat walk_at "st"
    refine k_sortD (SeqOf.ex e4 hsn) (DpAll_ex e4 _ _ hdn) (so_names (by omega)) hms fun l5 H5 vs5 hl5 e5 h5 d5 => ?_
    repeat walk_at "st"
    refine k_tupL (.inl (.inl h5)) fun l6 H6 hl6 e6 h6 => ?_
    repeat walk_at "st"
    have i6 := (e5.trans e6).get hA.ins
    refine k_sfldE i6 T.cls_Heap T.no_Heap_names (show 3 < 1000 by decide) fun H7 b7 i7 => ?_
    rw [hf_n] at i7
    have e7 : Ex H H7 := ExB.old (e4.trans (e5.trans e6)) np b7
    have dn7 : Dp K H7 (.ref l6) (dNames ns) := Dp_exB b7 i6 _ _ (.tup (.inl (.inl h6)) (DpAll_ex e6 _ _ d5))
    repeat walk_at "st"
    refine k_sortD (SeqOf.ex e7 hsc) (DpAll_ex e7 _ _ hdc) (so_cells (by omega)) (sort_cells hco) fun l8 H8 vs8 hl8 e8 h8 d8 => ?_
    repeat walk_at "st"
    refine k_tupL (.inl (.inl h8)) fun l9 H9 hl9 e9 h9 => ?_
    repeat walk_at "st"
    have i9 := (e8.trans e9).get i7
    refine k_sfldE i9 T.cls_Heap T.no_Heap_cells (show 3 < 1000 by decide) fun H10 b10 i10 => ?_
    rw [hf_c] at i10
    have e10 : Ex H H10 := ExB.old (e7.trans (e8.trans e9)) np b10
    have dn10 := Dp_exB b10 i9 _ _ (Dp_ex (e8.trans e9) _ _ dn7)
    have dc10 : Dp K H10 (.ref l9) (dCells cs) := Dp_exB b10 i9 _ _ (.tup (.inl (.inl h9)) (DpAll_ex e9 _ _ d8))
    obtain ⟨_, zs, et, hz, hzl, hzc⟩ := cells_tup dc10
    cases et
    repeat walk_at "st"
    refine k_fldE i10 T.cls_Heap T.no_Heap_cells (hf_cells _ _ _) ?_
    repeat walk_at "st"
    refine dc_rows (walk_tup (xs := zs)) (key := kC) (T := TRow) (rows := cs) hzl.symm hco.nd (by omega) TRow_ex TRow_d (fun H' e => e.sqT hz) (fun i x H' H'' c R1 R0 hc e y k1 => ?_) (fun D H' kvs hD e hk hr => ?_)
    · obtain ⟨rfl, y⟩ := y
      obtain ⟨q, hq, hsq⟩ := hzc i c hc
      rw [hq] at y
      cases y
      refine ⟨rfl, ?_⟩
      have hsq' := e.sqT hsq
      unfold fullT at hsq'
      repeat walk_at "st"
      refine k_slTA hsq' (show ¬ (HT.sIx 4 0 (some 1) = 0 ∧ HT.sIx 4 4 none = 4) by decide) fun l H5 hl5 e5 h5 => ?_
      exact k1 _ _ e5 ⟨l, rfl, h5⟩
    · repeat walk_at "st"
      have i11 := e.get i10
      refine k_sfldE i11 T.cls_Heap T.no_Heap__rows (show 3 < 1000 by decide) fun H12 b12 i12 => ?_
      rw [hf_r] at i12
      repeat walk_at "st"
      refine k _ _ (ExB.old (e10.trans e) np b12) ⟨dx, _, _, D, kvs, ⟨i12, Dp_exB b12 i11 _ _ (Dp_ex e _ _ dn10), Dp_exB b12 i11 _ _ (Dp_ex e _ _ dc10), b12 _ _ (ne_of hk i11 (fun z => nomatch z)) hk, hr.mono fun c v ⟨t, h1, h2⟩ => ⟨t, h1, b12 _ _ (ne_of h2 i11 (fun z => nomatch z)) h2⟩, hcl, hnl, hco, hno, sn, sc⟩, e10.none hD⟩
end


/-! ### what is raised -/
structure Ty (P : Program) (w : World) (K : PySem.W.Frag) (mg : Str → Option Value) : Prop where
  T : Tx w K mg
  lst : PySem.SupX.SupTxt P K mg (He.ga K "Lost") "Lost" "cell is lost: "
  noN : PySem.SupN.SupTxt P K mg (He.ga K "NoName") "NoName" "name is missing: "
  kh : PySem.W.kitOne K (.ref (He.ga K "Heap")) (.ref (He.ga K "Heap")) = some true
  tyH : PySem.W.findIn K (.ref (He.ga K "Heap")) "__class__" = some (some (.builtin "object.__class__")) ∧ PySem.W.specialIn K (.builtin "object.__class__") "__get__" = some (some (.builtin "getset_descriptor.__get__")) ∧ PySem.W.takesIn K (.builtin "object.__class__") = some true ∧ PySem.W.mroIn K (He.ga K "Heap") (.type "object") = some true
  siz : ∃ p g, PropOf K (He.ga K "Heap") "size" p g ∧ ∃ fd, FunD K "size" "Heap.size" (defArgs s_Heap_size) (defBody s_Heap_size) (defScope s_Heap_size) [] [] g fd
  sf : PySem.W.selfFirst K (He.ga K "Heap") = true
  kf : PySem.W.kitOne K (.ref (He.ga K "Figure")) (.ref (He.ga K "Figure")) = some true
  tyF : PySem.W.findIn K (.ref (He.ga K "Figure")) "__class__" = some (some (.builtin "object.__class__")) ∧ PySem.W.specialIn K (.builtin "object.__class__") "__get__" = some (some (.builtin "getset_descriptor.__get__")) ∧ PySem.W.takesIn K (.builtin "object.__class__") = some true ∧ PySem.W.mroIn K (He.ga K "Figure") (.type "object") = some true
theorem Ty.tyx {P : Program} {w : World} {K : PySem.W.Frag} {mg : Str → Option Value} (Y : Ty P w K mg) {H : Hp} {a dx : Addr} {fs : List (Str × V)} (h : H a = some (.ins (He.ga K "Heap") dx fs)) : TyX K H (.ref a) (.ref (He.ga K "Heap")) :=
  .base (.ins h Y.T.cls_Heap Y.tyH.1 Y.tyH.2.1 Y.tyH.2.2.1 Y.tyH.2.2.2)
theorem pmk_Lost {X : Cx} {a : Expr} {ta : TA} {p pos : Pos} {k : Nat} (Y : Ty X.prog X.w X.K X.mg) (hr : Room k X.A) (hg : Gl X "Lost") (ha : PA X [a] ta) (he : starEach (a :: []) X.env = (false, eval a X.env) :: starEach [] X.env := by rfl) (hpl : (backTo pos (starEach [] X.env)).any (·.1) = false := by rfl) :
    L2N.PMk X (.Call (.Name "Lost" p) [a] [] pos) (tMkSup (He.ga X.K "Lost") ta) := pmk_sup Y.lst (by decide +kernel) hr ha hg (by decide) he hpl
theorem pmk_NoName {X : Cx} {a : Expr} {ta : TA} {p pos : Pos} {k : Nat} (Y : Ty X.prog X.w X.K X.mg) (hr : Room k X.A) (hg : Gl X "NoName") (ha : PA X [a] ta) (he : starEach [a] X.env = (false, eval a X.env) :: starEach [] X.env := by rfl) (hpl : (backTo pos (starEach [] X.env)).any (·.1) = false := by rfl) :
    L2N.PMk X (.Call (.Name "NoName" p) [a] [] pos) (tMkSupN (He.ga X.K "NoName") ta) := pmk_supN Y.noN (by decide +kernel) hr ha hg (by decide) he hpl
abbrev eLost (K : PySem.W.Frag) : Value := .ref (He.ga K "Lost")
abbrev eNoN (K : PySem.W.Frag) : Value := .ref (He.ga K "NoName")
theorem Ty.tyxF {P : Program} {w : World} {K : PySem.W.Frag} {mg : Str → Option Value} (Y : Ty P w K mg) {H : Hp} {a dx : Addr} {fs : List (Str × V)} (h : H a = some (.ins (He.ga K "Figure") dx fs)) : TyX K H (.ref a) (.ref (He.ga K "Figure")) :=
  .base (.ins h Y.T.cls_Figure Y.tyF.1 Y.tyF.2.1 Y.tyF.2.2.1 Y.tyF.2.2.2)
/-! ### data of names, cells compared -/
theorem eqv_names (ns ms : List (Str × Int)) : PyData.eqv (dNames ns) (dNames ms) = decide (ns = ms) := by
  have h : ∀ (ns ms : List (Str × Int)), PyData.eqvAll (ns.map dName) (ms.map dName) = decide (ns = ms) := by
    intro ns
    induction ns with
    | nil => intro ms; cases ms <;> simp [PyData.eqvAll]
    | cons n ns ih =>
      intro ms
      cases ms with
      | nil => simp [PyData.eqvAll]
      | cons m ms =>
        rw [List.map_cons, List.map_cons, PyData.eqvAll, ih]
        obtain ⟨a, b⟩ := n
        obtain ⟨c, d⟩ := m
        by_cases h1 : a = c <;> by_cases h2 : b = d <;> by_cases h3 : ns = ms <;> simp [dName, PyData.eqv, PyData.eqvAll, h1, h2, h3]
  unfold dNames
  rw [PyData.eqv, h]
theorem eqv_cells (cs ds : List Cell) : PyData.eqv (dCells cs) (dCells ds) = decide (cs = ds) := by
  have h : ∀ (cs ds : List Cell), PyData.eqvAll (cs.map dCell) (ds.map dCell) = decide (cs = ds) := by
    intro cs
    induction cs with
    | nil => intro ds; cases ds <;> simp [PyData.eqvAll]
    | cons n ns ih =>
      intro ms
      cases ms with
      | nil => simp [PyData.eqvAll]
      | cons m ms =>
        rw [List.map_cons, List.map_cons, PyData.eqvAll, ih]
        obtain ⟨a, b, c, d⟩ := n
        obtain ⟨a', b', c', d'⟩ := m
        by_cases h1 : a = a' <;> by_cases h2 : b = b' <;> by_cases h3 : c = c' <;> by_cases h4 : d = d' <;> by_cases h5 : ns = ms <;> simp [dCell, PyData.eqv, PyData.eqvAll, h1, h2, h3, h4, h5]
  unfold dCells
  rw [PyData.eqv, h]
theorem lay_names (ns : List (Str × Int)) (so : ∀ n, n ∈ ns → PyData.strOk n.1 = true) : SeqAt.shaped (dNames ns) = true := by
  have h1 : PyData.canLayAll0 (ns.map dName) = true := by
    induction ns with
    | nil => simp [PyData.canLayAll0]
    | cons n ns ih => simp [PyData.canLayAll0, dName, PyData.canLay0, ih fun m hm => so m (List.mem_cons_of_mem _ hm), so n (List.mem_cons_self ..)]
  have h2 : PyData.depthAll (ns.map dName) ≤ 1 := by
    clear h1 so
    induction ns with
    | nil => simp [PyData.depthAll]
    | cons n ns ih =>
      simp only [List.map_cons, PyData.depthAll]
      have : (dName n).depth ≤ 1 := by simp [dName, PyData.depth, PyData.depthAll]
      omega
  unfold SeqAt.shaped dNames
  have h3 : (PyData.tuple (ns.map dName)).depth ≤ 64 := by
    rw [PyData.depth]
    omega
  have h4 : (PyData.tuple (ns.map dName)).canLay0 = true := by
    rw [PyData.canLay0]
    exact h1
  rw [h4, decide_eq_true h3]
  rfl
theorem lay_cells (ns : List Cell) (so : ∀ c, c ∈ ns → PyData.strOk c.m = true) : SeqAt.shaped (dCells ns) = true := by
  have h1 : PyData.canLayAll0 (ns.map dCell) = true := by
    induction ns with
    | nil => simp [PyData.canLayAll0]
    | cons n ns ih => simp [PyData.canLayAll0, dCell, PyData.canLay0, ih fun m hm => so m (List.mem_cons_of_mem _ hm), so n (List.mem_cons_self ..)]
  have h2 : PyData.depthAll (ns.map dCell) ≤ 1 := by
    clear h1 so
    induction ns with
    | nil => simp [PyData.depthAll]
    | cons n ns ih =>
      simp only [List.map_cons, PyData.depthAll]
      have : (dCell n).depth ≤ 1 := by simp [dCell, PyData.depth, PyData.depthAll]
      omega
  unfold SeqAt.shaped dCells
  have h3 : (PyData.tuple (ns.map dCell)).depth ≤ 64 := by
    rw [PyData.depth]
    omega
  have h4 : (PyData.tuple (ns.map dCell)).canLay0 = true := by
    rw [PyData.canLay0]
    exact h1
  rw [h4, decide_eq_true h3]
  rfl
theorem k_neN {K : PySem.W.Frag} {H : Hp} {Q : VK} {x y : V} {ns ms : List (Str × Int)} (h1 : Dp K H x (dNames ns)) (h2 : Dp K H y (dNames ms)) (s1 : ∀ n, n ∈ ns → PyData.strOk n.1 = true) (s2 : ∀ n, n ∈ ms → PyData.strOk n.1 = true) (q : Q (.bl (!decide (ns = ms))) H) : rNeD K x y H Q :=
  ⟨_, _, h1, h2, lay_names ns s1, lay_names ms s2, by rw [eqv_names]; exact q⟩
theorem k_eqN {K : PySem.W.Frag} {H : Hp} {Q : VK} {x y : V} {ns ms : List (Str × Int)} (h1 : Dp K H x (dNames ns)) (h2 : Dp K H y (dNames ms)) (s1 : ∀ n, n ∈ ns → PyData.strOk n.1 = true) (s2 : ∀ n, n ∈ ms → PyData.strOk n.1 = true) (q : Q (.bl (decide (ns = ms))) H) : rEqD K x y H Q :=
  ⟨_, _, h1, h2, lay_names ns s1, lay_names ms s2, by rw [eqv_names]; exact q⟩
theorem k_eqC {K : PySem.W.Frag} {H : Hp} {Q : VK} {x y : V} {ns ms : List Cell} (h1 : Dp K H x (dCells ns)) (h2 : Dp K H y (dCells ms)) (s1 : ∀ n, n ∈ ns → PyData.strOk n.m = true) (s2 : ∀ n, n ∈ ms → PyData.strOk n.m = true) (q : Q (.bl (decide (ns = ms))) H) : rEqD K x y H Q :=
  ⟨_, _, h1, h2, lay_cells ns s1, lay_cells ms s2, by rw [eqv_cells]; exact q⟩


def spPool (K : PySem.W.Frag) : Sp := fun vs H Q _ => ∃ (a : Addr) (xs : List Int), vs = [.ref a] ∧ SqL K H a (xs.map V.int) ∧ ∀ p H', Ex H H' → H p = none → Pool H' p → Q (.ref p) H'
def Digs (n : Nat) (ds : List Int) : Prop := ds.length ≤ n ∧ ∀ d ∈ ds, 0 ≤ d ∧ d < 60
theorem Digs.snoc {n : Nat} {ds : List Int} (h : Digs n ds) {d : Int} (h0 : 0 ≤ d) (h1 : d < 60) : Digs (n + 1) (ds ++ [d]) := by
  refine ⟨by rw [List.length_append]; simp; exact h.1, fun e he => ?_⟩
  rcases List.mem_append.mp he with z | z
  · exact h.2 e z
  · have : e = d := by simpa using z
    rw [this]; exact ⟨h0, h1⟩
theorem Digs.mono {n m : Nat} {ds : List Int} (h : Digs n ds) (hm : n ≤ m) : Digs m ds := ⟨Nat.le_trans h.1 hm, h.2⟩
def PoolI (a p : Addr) (H2 : Hp) (i : Nat) (σ : L2.St) (H' : Hp) : Prop := ∃ (v2 v3 v4 : Option V) (ds : List Int), σ = [some (.ref a), some (.ref p), v2, v3, v4] ∧ ExB p H2 H' ∧ H' p = some (.lst (((0 : Int) :: ds).map V.int)) ∧ Digs (12 * i) ds
def PoolJ (a p : Addr) (H2 : Hp) (v2 : Option V) (i j : Nat) (σ : L2.St) (H' : Hp) : Prop := ∃ (sz : Int) (v4 : Option V) (ds : List Int), σ = [some (.ref a), some (.ref p), v2, some (.int sz), v4] ∧ 0 ≤ sz ∧ ExB p H2 H' ∧ H' p = some (.lst (((0 : Int) :: ds).map V.int)) ∧ Digs (12 * i + j) ds
section
variable {P : Program} {w : World} {K : PySem.W.Frag} {mg : Str → Option Value} {base : Heap}
theorem c_l_pool (T : Tx w K mg) : Cal P w K mg base CX0 1 "_law_pool" ["script"] (spPool K) := by
  refine cal_mk T.D_l_pool T.m__law_pool sc_l_pool (fun _ _ _ _ _ _ us hl => match us, hl with | [_], _ => rfl) (fun vs H Q E h => ?_) (fun f cdv A outer s H vs Q E hr h => ?_)
  · obtain ⟨a, xs, rfl, _⟩ := h
    rfl
  · obtain ⟨a, xs, rfl, hs, k⟩ := h
    refine ⟨_, ((pss_cons (ps_set (i := 1) sc_l_pool.nd rfl (Or.inl rfl) (pe_lst (pa_cons pe_int pa_nil)))
  (pss_cons (ps_for PassesOwn.never rfl (pi_list (pe_slice sl_list (pv 0) po_none (po_some pe_int))) (pg_name (i := 2) sc_l_pool.nd rfl (Or.inl rfl)) (pss_cons (ps_set (i := 3) sc_l_pool.nd rfl (Or.inl rfl) (pe_callTy cr_int rfl T.f_int (by decide +kernel) (pa_cons (pe_callB cr_abs rfl T.f_abs (by decide +kernel) (pa_cons (pv 2) pa_nil)) pa_nil)))
  (pss_cons (ps_if (pt_cmpR o_gt (pv 3) (pe_op o_pow pe_int pe_int) (nomark _)) (pss_one (ps_set (i := 3) sc_l_pool.nd rfl (Or.inl rfl) (pe_op o_add (pe_op o_pow pe_int pe_int) (pe_op o_mod (pe_callTy cr_int rfl T.f_int (by decide +kernel) (pa_cons (pv 3) pa_nil)) (pe_op o_pow pe_int pe_int))))) pss_nil)
  (pss_one (ps_for PassesOwn.never rfl (pi_range1 rfl T.f_range (pa_cons pe_int pa_nil)) (pg_name (i := 4) sc_l_pool.nd rfl (Or.inl rfl)) (pss_cons (ps_expr (pe_bm PySem.F.plainAttrs_list PySem.F.slot_list_append PySem.F.type_list_append mt_append (pv 1) (pa_cons (pe_op o_mod (pe_callTy cr_int rfl T.f_int (by decide +kernel) (pa_cons (pv 3) pa_nil)) pe_int) pa_nil)))
  (pss_cons (ps_set (i := 3) sc_l_pool.nd rfl (Or.inl rfl) (pe_op o_fdiv (pv 3) pe_int))
  (pss_one (ps_if (pt_cmpR op_eq (pv 3) pe_int (nomark _)) (pss_one ps_break) pss_nil)))))))))
  (pss_one (ps_ret (pv 1)))))), ?_⟩
    dsimp only [cxOf, Cx.nox]
    repeat walk_at "st"
    intro p H1 hp e1 h1
    repeat walk_at "st"
    refine k_slL (e1.sqL hs) fun l H2 hl e2 h2 => ?_
    repeat walk_at "st"
    have e02 : Ex H H2 := e1.trans e2
    have hcut : ∃ ys : List Int, cutV (xs.map V.int) none (some 63) = ys.map V.int ∧ ys.length ≤ 63 := by
      refine ⟨(xs.drop (HT.sIx (xs.map V.int).length 0 none)).take (HT.sIx (xs.map V.int).length (xs.map V.int).length (some 63) - HT.sIx (xs.map V.int).length 0 none), ?_, ?_⟩
      · unfold cutV
        rw [List.map_take, List.map_drop]
      · rw [List.length_take]
        have : HT.sIx (xs.map V.int).length (xs.map V.int).length (some 63) ≤ 63 := by
          unfold HT.sIx
          simp
          omega
        omega
    obtain ⟨ys, ey, ly⟩ := hcut
    rw [ey] at h2
    have npl : l ≠ p := fun z => by
      rw [z, h1] at hl
      cases hl
    refine for_it (walk_list (xs := ys.map V.int)) (PoolI a p H2) ⟨none, none, none, [], rfl, ExB.of (Ex.refl _), e2.get h1, by simp [Digs]⟩ (fun i σ' H' _ ⟨_, _, _, _, _, b, _⟩ => .inl (.inl (b _ _ npl h2))) (fun i x σ' H' H'' hi ⟨v2, v3, v4, ds, es, b, hL, hd⟩ y => ?_) (fun σ' H' ⟨v2, v3, v4, ds, es, b, hL, hd⟩ => ?_)
    · subst es
      obtain ⟨rfl, y⟩ := y
      rw [List.length_map] at hi
      obtain ⟨c, hc⟩ : ∃ c, ys[i]? = some c := ⟨ys[i]'hi, List.getElem?_eq_getElem hi⟩
      rw [List.getElem?_map, hc] at y
      cases y
      repeat walk_at "st"
      refine k_pow ⟨by decide, by decide, by decide⟩ ?_
      have hc0 : 0 ≤ (if c < 0 then -c else c) := by split <;> omega
      have hp60 : (0 : Int) < 60 ^ (12 : Int).toNat := by decide
      generalize (if c < 0 then -c else c) = sz0 at hc0
      have hi63 : i < 63 := by omega
      repeat walk_at "st"
      split
      · repeat walk_at "st"
        refine k_pow ⟨by decide, by decide, by decide⟩ ?_
        repeat walk_at "st"
        refine k_pow ⟨by decide, by decide, by decide⟩ ?_
        repeat walk_at "st"
        refine for_range (lo := 0) (PoolJ a p H2 (some (.int c)) i) ⟨_, _, ds, rfl, Int.add_nonneg (Int.le_of_lt hp60) (Int.emod_nonneg _ (by omega)), b, hL, hd⟩ (fun j σ' H3 hj ⟨sz, v4, ds, es, h0, b, hL, hd⟩ => ?_) (fun σ' H3 ⟨sz, v4, ds, es, h0, b, hL, hd⟩ => ?_)
        · subst es
          have hln := hd.1
          repeat walk_at "st"
          intro H4 b4 h4
          repeat walk_at "st"
          refine k_div ⟨by decide, by decide⟩ ?_
          repeat walk_at "st"
          have e4 : (0 :: ds).map V.int ++ [V.int (sz % 60)] = ((0 : Int) :: (ds ++ [sz % 60])).map V.int := by
            rw [List.map_cons, List.map_cons, List.map_append]
            rfl
          rw [e4] at h4
          have d4 : Digs (12 * i + j + 1) (ds ++ [sz % 60]) := hd.snoc (Int.emod_nonneg _ (by decide)) (Int.emod_lt_of_pos _ (by decide))
          have hq0 : 0 ≤ sz / 60 := Int.ediv_nonneg h0 (by decide)
          split
          · refine k_brk ?_
            exact ⟨_, _, _, _, rfl, b.trans b4, h4, d4.mono (by omega)⟩
          · repeat walk_at "st"
            exact ⟨_, _, _, rfl, hq0, b.trans b4, h4, d4⟩
        · exact ⟨_, _, _, ds, es, b, hL, hd.mono (by omega)⟩
      · repeat walk_at "st"
        refine for_range (lo := 0) (PoolJ a p H2 (some (.int c)) i) ⟨_, _, ds, rfl, hc0, b, hL, hd⟩ (fun j σ' H3 hj ⟨sz, v4, ds, es, h0, b, hL, hd⟩ => ?_) (fun σ' H3 ⟨sz, v4, ds, es, h0, b, hL, hd⟩ => ?_)
        · subst es
          have hln := hd.1
          repeat walk_at "st"
          intro H4 b4 h4
          repeat walk_at "st"
          refine k_div ⟨by decide, by decide⟩ ?_
          repeat walk_at "st"
          have e4 : (0 :: ds).map V.int ++ [V.int (sz % 60)] = ((0 : Int) :: (ds ++ [sz % 60])).map V.int := by
            rw [List.map_cons, List.map_cons, List.map_append]
            rfl
          rw [e4] at h4
          have d4 : Digs (12 * i + j + 1) (ds ++ [sz % 60]) := hd.snoc (Int.emod_nonneg _ (by decide)) (Int.emod_lt_of_pos _ (by decide))
          have hq0 : 0 ≤ sz / 60 := Int.ediv_nonneg h0 (by decide)
          split
          · refine k_brk ?_
            exact ⟨_, _, _, _, rfl, b.trans b4, h4, d4.mono (by omega)⟩
          · repeat walk_at "st"
            exact ⟨_, _, _, rfl, hq0, b.trans b4, h4, d4⟩
        · exact ⟨_, _, _, ds, es, b, hL, hd.mono (by omega)⟩
    · subst es
      repeat walk_at "st"
      refine k p H' (ExB.old e02 hp b) hp ⟨_, hL, 0, ds, rfl, by decide, ?_, hd.2⟩
      have := hd.1
      rw [List.length_map] at this
      omega
end


/-! ### of cells; calls whose exceptions a suite takes -/
theorem TFull.exT {H H' : Hp} {c : Cell} {v : V} (e : ExT H H') (h : TFull H c v) : TFull H' c v := let ⟨t, h1, h2⟩ := h; ⟨t, h1, e _ _ (fun _ z => nomatch z) h2⟩
theorem TRow.exT {H H' : Hp} {c : Cell} {v : V} (e : ExT H H') (h : TRow H c v) : TRow H' c v := let ⟨t, h1, h2⟩ := h; ⟨t, h1, e _ _ (fun _ z => nomatch z) h2⟩
theorem dp_cells {K : PySem.W.Frag} {H : Hp} {cs : List Cell} {vs : List V} (p : Paired (fun c v => TFull H c v) cs vs) : DpAll K H vs (cs.map dCell) := by
  induction p with
  | nil => exact .nil
  | cons h _ ih =>
    obtain ⟨t, rfl, ht⟩ := h
    exact .cons (dp_cell' (.inl (.inl ht))) ih
theorem cell_key {cs : List Cell} {a : Int} {c : Cell} (h : cellOf cs a = some c) : c ∈ cs ∧ c.a = a := let ⟨h1, h2⟩ := rowAt_some h; ⟨h1, Sum.inl.inj h2⟩
theorem cell_mem {cs : List Cell} (co : CsOk cs) {c : Cell} (h : c ∈ cs) : cellOf cs c.a = some c := rowAt_mem co.nd h
theorem cell_none {cs : List Cell} {a : Int} (h : cellOf cs a = none) : ∀ c ∈ cs, c.a ≠ a := fun c hc e => rowAt_none h c hc (by rw [← e]; rfl)
theorem filt_range {α β : Type} (f : α → Bool) (g : α → β) (sl : Option α → Bool) (h : Option α → β) (hs : ∀ a, sl (some a) = f a) (hh : ∀ a, h (some a) = g a) : ∀ l : List α, ((List.range l.length).filter fun i => sl l[i]?).map (fun i => h l[i]?) = (l.filter f).map g
  | [] => rfl
  | a :: l => by
    have ih := filt_range f g sl h hs hh l
    have e : ((List.range l.length).map Nat.succ).filter (fun i => sl (a :: l)[i]?) = ((List.range l.length).filter fun i => sl l[i]?).map Nat.succ := by
      rw [List.filter_map]
      congr 1
    have e2 : (((List.range l.length).filter fun i => sl l[i]?).map Nat.succ).map (fun i => h (a :: l)[i]?) = ((List.range l.length).filter fun i => sl l[i]?).map (fun i => h l[i]?) := by
      rw [List.map_map]
      rfl
    rw [List.length_cons, List.range_succ_eq_map, List.filter_cons, List.filter_cons, e]
    have h0 : sl (a :: l)[0]? = f a := hs a
    rw [h0]
    cases f a with
    | true =>
      rw [if_pos rfl, if_pos rfl, List.map_cons, List.map_cons, e2, ih]
      congr 1
      exact hh a
    | false =>
      rw [if_neg Bool.false_ne_true, if_neg Bool.false_ne_true, e2, ih]
theorem seq_of_dp {K : PySem.W.Frag} {H : Hp} {a : Addr} {ds : List PyData} (h : Dp K H (.ref a) (.tuple ds)) : ∃ xs, SeqOf K H a xs ∧ DpAll K H xs ds := by
  cases h with
  | tup hs ha => exact ⟨_, .inr hs, ha⟩
theorem log2_small {n : Nat} (h : n ≤ 9999) : n.log2 < 1920 := by
  by_cases e : n = 0
  · rw [e]; decide
  · exact Nat.lt_of_lt_of_le ((Nat.log2_lt e).mpr (show n < 2 ^ 14 by omega)) (by decide)
theorem pe_calS {X : Cx} {W : WX} {k j : Nat} {x : Str} {ps : List Str} {sp : Sp} {p pos : Pos} {e : Expr} {es : List Expr} {t : TA} (c : Cal X.prog X.w X.K X.mg X.base (L2N.CX X.prog X.w) k x ps sp) (hr : Room j X.A) (hk : k ≤ j) (hg : Gl X x) (tk : L2N.Takes X W) (ha : PA X (e :: es) t)
    (hdb : (x == ("__debug__" : Str)) = false := by decide) (he : starEach (e :: es) X.env = (false, eval e X.env) :: starEach es X.env := by rfl) (hpl : (backTo pos (starEach es X.env)).any (·.1) = false := by rfl) :
    PE X (.Call (.Name x p) (e :: es) [] pos) (tCallS sp (WE W) t) := by
  obtain ⟨f, fd, F, hm, kp, hb⟩ := c.ok
  exact pe_callS F (hr.mono hk) hg hm kp hb (fun σ => L2N.passAt tk σ) ha hdb he hpl
theorem k_callS {sp : Sp} {E : L2.St → XK} {t : TA} {σ : L2.St} {H : Hp} {Q : VK} (h : t σ H fun vs H1 => sp vs H1 Q (E σ)) : tCallS sp E t σ H Q := h
/-- o.m(e, ..) of a method whose exception a suite takes -/
def tMethS (C : Addr) (m : Str) (sp : Sp) (E : L2.St → XK) (ta : TE) (t : TA) : TE := fun σ H Q => ta σ H fun x H1 => ∃ a dx fs, x = .ref a ∧ H1 a = some (.ins C dx fs) ∧ fs.lookup m = none ∧ t σ H1 fun vs H2 => sp (x :: vs) H2 Q (E σ)
theorem k_metS {C : Addr} {m : Str} {sp : Sp} {E : L2.St → XK} {ta : TE} {t : TA} {σ : L2.St} {H : Hp} {Q : VK} (h : ta σ H fun x H1 => ∃ a dx fs, x = .ref a ∧ H1 a = some (.ins C dx fs) ∧ fs.lookup m = none ∧ t σ H1 fun vs H2 => sp (x :: vs) H2 Q (E σ)) : tMethS C m sp E ta t σ H Q := h
theorem pe_metS {X : Cx} {W : WX} {k j : Nat} {m : Str} {C : Addr} {ps : List Str} {sp : Sp} {pos apos : Pos} {e o : Expr} {es : List Expr} {ta : TE} {t : TA} {pl : Sem Bool} (he : PE X o ta) (c : Cls X.K C) (cm : Met X.prog X.w X.K X.mg X.base (L2N.CX X.prog X.w) k C m ps sp) (hr : Room j X.A) (hk : k ≤ j) (tk : L2N.Takes X W) (ha : PA X (e :: es) t)
    (hst : starEach (e :: es) X.env = (false, eval e X.env) :: starEach es X.env := by rfl) (hpl : (backTo pos (starEach es X.env)).any (·.1) = false := by rfl)
    (ht : eval (.Call (.Attribute o m apos) (e :: es) [] pos) X.env = (do
      let ov ← eval o X.env
      standAt apos.atName
      let (f, first) ← holding [ov] (getMethod ov m pl)
      callWith pos f first (backTo pos (starEach (e :: es) X.env)) (backToKw pos (keywordEach [] X.env))) := by rfl) :
    PE X (.Call (.Attribute o m apos) (e :: es) [] pos) (tMethS C m sp (WE W) ta t) := by
  obtain ⟨f, fd, F, M, hb⟩ := cm.ok
  refine ⟨fun pins s σ H Q I h => ?_⟩
  refine PySem.W.methodCall_KW (pl := pl) (thn (he.run pins s σ H _ I h) fun u s1 ⟨x, H1, I1, rx, a, dx, fs, ex, ea, l, q⟩ => ?_) ht
  subst ex
  obtain rfl : u = Value.ref a := rx
  refine getmeth_ok I1 ea c M l ?_
  refine PySem.W.callWith_K (first := [.ref a]) (h₀ := X.base) I.ok.mod.kin M.kp (thn (ha.run pos pins s1 σ H1 _ I1 q) fun us s2 ⟨vs, H2, I2, r, q2⟩ => ⟨I2.kIn, ?_⟩) hst hpl
  exact run_fnS (us := .ref a :: us) (vs := .ref a :: vs) (E := WE W) (Q := Q) F (hr.mono hk) hb (L2N.passAt tk σ) I2 (.cons rfl r) q2
theorem passF {X : Cx} : Passes (L2N.CX X.prog X.w) X (fun _ _ _ => False) := L2N.passes_call (W := fun _ _ _ _ => False) (fun _ _ ⟨_, _, _, _, _, _, _, _, _, _, _, _, _, _, _, _, w⟩ => w.elim) (fun _ _ _ _ h => h)
theorem takesF {X : Cx} : L2N.Takes X (fun _ _ _ _ => False) := fun _ _ ⟨_, _, _, _, _, _, _, _, _, _, _, _, _, _, _, _, w⟩ => w.elim
theorem k_mkN {C : Addr} {ta : TA} {σ : L2.St} {H : Hp} {Q : XK} (h : ta σ H fun vs H1 => ∃ z : Str, vs = [V.str z] ∧ z.length ≤ 1000 ∧ ∀ d, H1 d = none → Q (.ref C) (some d) (upd H1 d (xdN z))) : tMkSupN C ta σ H Q := h

/-! ### what is due -/
def nmLe (a b : Str × Int) : Bool := decide (a.1.cps.toList ≤ b.1.cps.toList)
theorem sortN_ex {ns : List (Str × Int)} (nd : (ns.map (·.1)).Nodup) : ∃ ms : List (Str × Int), (ns.map dName).mergeSort (dataLe false id) = ms.map dName ∧ NmOk ms ∧ (∀ n, n ∈ ms ↔ n ∈ ns) ∧ ms.length = ns.length := by
  have pm := List.mergeSort_perm ns nmLe
  refine ⟨ns.mergeSort nmLe, ?_, ?_, fun n => pm.mem_iff, pm.length_eq⟩
  · symm
    refine List.map_mergeSort fun a ha b hb => ?_
    show nmLe a b = !dataLt (dName b) (dName a)
    unfold nmLe
    by_cases e : a.1 = b.1
    · have e2 : a = b := by
        have h1 := rowAt_mem (key := fun n : Str × Int => n.1) nd ha
        have h2 := rowAt_mem (key := fun n : Str × Int => n.1) nd hb
        have h1' : rowAt (fun n : Str × Int => n.1) ns a.1 = some a := h1
        have h2' : rowAt (fun n : Str × Int => n.1) ns b.1 = some b := h2
        rw [e, h2'] at h1'
        exact (Option.some.inj h1').symm
      subst e2
      rw [decide_eq_true (List.le_refl _)]
      unfold dName
      rw [dataLt_pair (by simp [alike]) (by simp [alike])]
      simp [PyData.eqv]
    · have e3 : PyData.eqv (.str b.1) (.str a.1) = false := by
        simp only [PyData.eqv, beq_eq_false_iff_ne]
        exact fun z => e z.symm
      unfold dName
      rw [dataLt_head (by simp [alike]) e3, dataLt_str]
      by_cases h : b.1.cps.toList < a.1.cps.toList
      · rw [decide_eq_true h, decide_eq_false (List.not_le.mpr h)]
        rfl
      · rw [decide_eq_false h, decide_eq_true (List.not_lt.mp h)]
        rfl
  · have pw : (ns.mergeSort nmLe).Pairwise (fun a b => nmLe a b = true) := List.pairwise_mergeSort (fun a b c h1 h2 => by
      unfold nmLe at *
      rw [decide_eq_true_eq] at *
      exact List.le_trans h1 h2) (fun a b => by
      unfold nmLe
      rw [Bool.or_eq_true, decide_eq_true_eq, decide_eq_true_eq]
      exact List.le_total _ _) ns
    have nd2 : ((ns.mergeSort nmLe).map (·.1)).Nodup := (pm.map _).nodup_iff.mpr nd
    rw [List.nodup_iff_pairwise_ne, List.pairwise_map] at nd2
    unfold NmOk
    refine (List.pairwise_and_iff.mpr ⟨pw, nd2⟩).imp fun {a b} h => ?_
    have h1 : a.1.cps.toList ≤ b.1.cps.toList := of_decide_eq_true h.1
    by_cases h2 : a.1.cps.toList < b.1.cps.toList
    · exact h2
    · exact absurd (str_eq h2 (List.not_lt.mpr h1)) h.2
theorem itemsN {K : PySem.W.Frag} {H : Hp} (ns : List (Str × Int)) : L3.ItemsOf K H (kvN ns) (ns.map dName) := by
  unfold L3.ItemsOf kvN
  induction ns with
  | nil => exact .nil
  | cons n ns ih => exact .cons ⟨.int n.2, rfl, .int _⟩ ih
/-- a dict of cells -/
def DictC (H : Hp) (d : Addr) (cs : List Cell) : Prop := ∃ kvs, H d = some (.dK kvs) ∧ RowsOf H kvs cs ∧ (cs.map kC).Nodup
def DictN (H : Hp) (d : Addr) (ns : List (Str × Int)) : Prop := H d = some (.dK (kvN ns)) ∧ (ns.map (·.1)).Nodup
theorem DictC.ex {H H' : Hp} {d : Addr} {cs : List Cell} (e : Ex H H') (h : DictC H d cs) : DictC H' d cs := let ⟨kvs, h1, h2, h3⟩ := h; ⟨kvs, e _ _ h1, RowsK.ex TRow_ex e h2, h3⟩
theorem DictN.ex {H H' : Hp} {d : Addr} {ns : List (Str × Int)} (e : Ex H H') (h : DictN H d ns) : DictN H' d ns := ⟨e _ _ h.1, h.2⟩
theorem ckeys {cs : List Cell} (nd : (cs.map kC).Nodup) : (cs.map (·.a)).Nodup := by
  have : cs.map kC = (cs.map (·.a)).map Sum.inl := by rw [List.map_map]; rfl
  rw [this] at nd
  exact List.Pairwise.of_map Sum.inl (fun a b h e => h (by rw [e])) nd
/-- for place in sorted(cells) -/
theorem sortC_ex {cs : List Cell} (nd : (cs.map kC).Nodup) {ys : List Int} (pm : ys.Perm (cs.map (·.a))) (so : ys.Pairwise (· ≤ ·)) : ∃ ds : List Cell, ds.map (·.a) = ys ∧ CsOk ds ∧ (∀ c, c ∈ ds ↔ c ∈ cs) ∧ ds.length = cs.length := by
  obtain ⟨ds, eds, eln, emem⟩ := rows_of_keys (key := fun n : Cell => n.a) (ckeys nd) pm
  refine ⟨ds, eds, ?_, emem, eln⟩
  have q := ints_strict pm so (ckeys nd)
  rw [← eds, List.pairwise_map] at q
  exact q
def dDue (ns : List (Str × Int)) (cs : List Cell) : PyData := .tuple [dNames ns, dCells cs, .int cs.length]
def spDue (K : PySem.W.Frag) : Sp := fun vs H Q _ => ∃ (a b : Addr) (ns : List (Str × Int)) (cs : List Cell), vs = [.ref a, .ref b] ∧ DictN H a ns ∧ ns.length ≤ 20 ∧ DictC H b cs ∧ cs.length ≤ 60 ∧
  ∀ H' t ns' cs', Ex H H' → NmOk ns' → (∀ n, n ∈ ns' ↔ n ∈ ns) → CsOk cs' → (∀ c, c ∈ cs' ↔ c ∈ cs) → cs'.length = cs.length → ns'.length = ns.length → Dp K H' (.ref t) (dDue ns' cs') → Q (.ref t) H'
def DueI (a b l : Addr) (H2 : Hp) (ds : List Cell) (i : Nat) (σ : L2.St) (H' : Hp) : Prop := ∃ (v3 v4 v5 v6 : Option V) (vs : List V), σ = [some (.ref a), some (.ref b), some (.ref l), v3, v4, v5, v6] ∧ ExB l H2 H' ∧ H' l = some (.lst vs) ∧ Paired (fun c v => TFull H' c v) (ds.take i) vs
section
variable {P : Program} {w : World} {K : PySem.W.Frag} {mg : Str → Option Value} {base : Heap}
theorem c_l_due (T : Tx w K mg) : Cal P w K mg base CX0 1 "_law_due" ["names", "cells"] (spDue K) := by
  refine cal_mk T.D_l_due T.m__law_due sc_l_due (fun _ _ _ _ _ _ us hl => match us, hl with | [_, _], _ => rfl) (fun vs H Q E h => ?_) (fun f cdv A outer s H vs Q E hr h => ?_)
  · obtain ⟨a, b, ns, cs, rfl, _⟩ := h
    rfl
  · obtain ⟨a, b, ns, cs, rfl, hN, hnl, hC, hcl, k⟩ := h
    obtain ⟨kvs, hk, hrw, nd⟩ := hC
    have hu := hu_of hr
    refine ⟨_, ((pss_cons (ps_set (i := 2) sc_l_due.nd rfl (Or.inl rfl) (pe_lst pa_nil))
  (pss_cons (ps_for PassesOwn.never rfl (pi_list (pe_callB (call_sortedDI rfl) rfl T.f_sorted (by decide +kernel) (pa_cons (pv 1) pa_nil))) (pg_name (i := 3) sc_l_due.nd rfl (Or.inl rfl)) (pss_cons (ps_asg (pe_dget hu (pv 1) (pv 3) (fun _ _ => rfl)) (pg_tup (n := 3) rfl (pgs_cons (pg_name (i := 4) sc_l_due.nd rfl (Or.inl rfl)) (pgs_cons (pg_name (i := 5) sc_l_due.nd rfl (Or.inl rfl)) (pgs_cons (pg_name (i := 6) sc_l_due.nd rfl (Or.inl rfl)) pgs_nil)))))
  (pss_one (ps_expr (pe_bm PySem.F.plainAttrs_list PySem.F.slot_list_append PySem.F.type_list_append mt_append (pv 2) (pa_cons (pe_tup (pa_cons (pv 3) (pa_cons (pv 4) (pa_cons (pv 5) (pa_cons (pv 6) pa_nil))))) pa_nil))))))
  (pss_one (ps_ret (pe_tup (pa_cons (pe_callTy cr_tupOf rfl T.f_tuple (by decide +kernel) (pa_cons (pe_callB (cr_sortIt rfl (hu64 hr)) rfl T.f_sorted (by decide +kernel) (pa_cons (pe_bm0 PySem.F.plainAttrs_dict PySem.F.slot_dict_items PySem.F.type_dict_items mt_itemsK (pv 0)) pa_nil)) pa_nil)) (pa_cons (pe_callTy cr_tupOf rfl T.f_tuple (by decide +kernel) (pa_cons (pv 2) pa_nil)) (pa_cons (pe_callB cr_len rfl T.f_len (by decide +kernel) (pa_cons (pv 2) pa_nil)) pa_nil))))))))), ?_⟩
    dsimp only [cxOf, Cx.nox]
    repeat walk_at "st"
    intro l H1 hl e1 h1
    repeat walk_at "st"
    have hkeys : kvs.map (·.1) = (cs.map (·.a)).map Sum.inl := by
      rw [hrw.keys, List.map_map]
      rfl
    refine ⟨b, kvs, cs.map (·.a), rfl, .inl (e1.get hk), hkeys, by rw [List.length_map]; omega, fun ys pl pm so hpl => ?_⟩
    obtain ⟨ds, eds, cds, mds, lds⟩ := sortC_ex nd pm so
    have e2 : Ex H1 (upd H1 pl (.lst (ys.map V.int))) := Ex.new hpl
    have h2 : upd H1 pl (.lst (ys.map V.int)) pl = some (.lst (ys.map V.int)) := upd_same
    have npl : pl ≠ l := fun z => by rw [z, h1] at hpl; cases hpl
    generalize upd H1 pl (.lst (ys.map V.int)) = H2 at e2 h2
    have e02 : Ex H H2 := e1.trans e2
    have ylen : (ys.map V.int).length = ds.length := by rw [List.length_map, ← eds, List.length_map]
    refine ⟨pl, rfl, ⟨_, .inl (.inl h2)⟩, ?_⟩
    refine for_it (walk_list (xs := ys.map V.int)) (DueI a b l H2 ds) ⟨none, none, none, none, [], rfl, ExB.of (Ex.refl _), e2.get h1, .nil⟩ (fun i σ' H' _ ⟨_, _, _, _, _, _, b, _⟩ => .inl (.inl (b _ _ npl h2))) (fun i x σ' H' H'' hi ⟨v3, v4, v5, v6, vs, es, bb, hL, pr⟩ y => ?_) (fun σ' H' ⟨v3, v4, v5, v6, vs, es, bb, hL, pr⟩ => ?_)
    · subst es
      obtain ⟨rfl, y⟩ := y
      obtain ⟨c, hc⟩ : ∃ c, ds[i]? = some c := ⟨ds[i]'(by omega), List.getElem?_eq_getElem (by omega)⟩
      rw [List.getElem?_map, ← eds, List.getElem?_map, hc] at y
      cases y
      have eH : Ex H H'' := ExB.old e02 hl bb
      have hat := hrw.val (kC c)
      rw [rowAt_mem nd ((mds c).mp (List.mem_of_getElem? hc))] at hat
      obtain ⟨v, hv, t, rfl, ht⟩ := hat
      have vlen : vs.length ≤ 60 := by
        have z1 := Paired.length pr
        rw [List.length_take] at z1
        omega
      have ht2 := eH.get ht
      have hk2 := eH.get hk
      unfold rowT at ht2
      repeat walk_at "st"
      refine k_dgetE (k := Sum.inl c.a) rfl (.inl hk2) hv ?_
      repeat walk_at "st"
      intro q H6 hq e6 h6
      have hL6 := e6.get hL
      repeat walk_at "st"
      intro H7 b7 h7
      refine ⟨_, _, _, _, _, rfl, bb.trans ((ExB.of e6).trans b7), h7, ?_⟩
      rw [List.take_add_one, hc]
      have xT := ExB.t b7 hL6
      exact Paired.snoc' (TFull.exT xT ⟨q, rfl, h6⟩) (Paired.mapP pr fun a v z => TFull.exT ((Ex.t e6).trans xT) z)
    · subst es
      rw [ylen, List.take_length] at pr
      have eH : Ex H H' := ExB.old e02 hl bb
      have hNa := eH.get hN.1
      repeat walk_at "st"
      obtain ⟨ms, hms, oms, mms, lms⟩ := sortN_ex hN.2
      refine ⟨.inr (.inr (.inl ⟨rfl, .inl ⟨_, hNa⟩⟩)), a, kvN ns, rfl, rfl, hNa, fun p hp => ?_⟩
      have e3 : Ex H' (upd H' p (L2.DX.itemsO p a)) := Ex.new hp
      have h3 : upd H' p (L2.DX.itemsO p a) p = some (L2.DX.itemsO p a) := upd_same
      generalize upd H' p (L2.DX.itemsO p a) = H3 at e3 h3
      repeat walk_at "st"
      refine ⟨p, a, kvN ns, ns.map dName, rfl, h3, e3.get hNa, itemsN ns, so_names (by omega), fun H4 q vs4 e4 h4 d4 => ?_⟩
      rw [hms] at d4
      repeat walk_at "st"
      refine k_tupL (.inl (.inl h4)) fun t1 H5 ht1 e5 h5 => ?_
      have hL5 := e5.get (e4.get (e3.get hL))
      repeat walk_at "st"
      refine k_tupL (.inl (.inl hL5)) fun t2 H6 ht2 e6 h6 => ?_
      have hL6 := e6.get hL5
      repeat walk_at "st"
      intro t3 H7 ht3 e7 h7
      have eF : Ex H' H7 := e3.trans (e4.trans (e5.trans (e6.trans e7)))
      have vl : vs.length = ds.length := (Paired.length pr).symm
      refine k H7 t3 ms ds (eH.trans eF) oms mms cds mds lds lms (.tup (.inl (.inl h7)) (.cons (.tup (.inl (.inl ((e6.trans e7).get h5))) (DpAll_ex (e5.trans (e6.trans e7)) _ _ d4)) (.cons (.tup (.inl (.inl (e7.get h6))) (DpAll_ex eF _ _ (dp_cells pr))) (.cons ?_ .nil))))
      rw [vl]
      exact .int _
end


def spSize (K : PySem.W.Frag) : Sp := fun vs H Q _ => ∃ (p : Addr) (ns : List (Str × Int)) (cs : List Cell), vs = [.ref p] ∧ HeapAt K H p ns cs ∧ Q (.int cs.length) H
theorem wt_names (ns : List (Str × Int)) : wts (ns.map dName) = 3 * ns.length := by
  induction ns with
  | nil => rfl
  | cons n ns ih => rw [List.map_cons, wts, ih, List.length_cons]; simp [dName, wt, wts]; omega
theorem wt_cells (ns : List Cell) : wts (ns.map dCell) = 5 * ns.length := by
  induction ns with
  | nil => rfl
  | cons n ns ih => rw [List.map_cons, wts, ih, List.length_cons]; simp [dCell, wt, wts]; omega
theorem wt_due (ns : List (Str × Int)) (cs : List Cell) : wt (dDue ns cs) = 3 * ns.length + 5 * cs.length + 4 := by
  unfold dDue dNames dCells
  simp [wt, wts, wt_names, wt_cells]
  omega
/-- told is the heap of the dicts -/
def spLHeap (K : PySem.W.Frag) : Sp := fun vs H Q _ => ∃ (p a b : Addr) (ns ms : List (Str × Int)) (cs ds : List Cell), vs = [.ref p, .ref a, .ref b] ∧ HeapAt K H p ns cs ∧ DictN H a ms ∧ DictC H b ds ∧ ms.length ≤ 20 ∧ ds.length ≤ 60 ∧ (∀ n, n ∈ ns ↔ n ∈ ms) ∧ (∀ c, c ∈ cs ↔ c ∈ ds) ∧ ∀ H', Ex H H' → Q (.bl true) H'
section
variable {P : Program} {w : World} {K : PySem.W.Frag} {mg : Str → Option Value} {base : Heap}
theorem sz_Heap (Y : Ty P w K mg) : Prp P w K mg base CX0 1 (hC K) "size" ["self"] (spSize K) := by
  have T := Y.T
  obtain ⟨p, g, hp, fd, F⟩ := Y.siz
  refine ⟨p, g, fd, hp, F.ok sc_Heap_size (fun vs H Q E h => ?_) (fun cdv A outer s H vs Q E hr h => ?_), F.bindsN (fun _ _ _ _ _ _ us hl => match us, hl with | [_], _ => rfl)⟩
  · obtain ⟨p, ns, cs, rfl, _⟩ := h
    rfl
  · have z : ∃ t, PSs (cxOf CX0 P w K mg base ["self"] "Heap.size" (defScope s_Heap_size) g cdv A outer s H E).nox (defBody s_Heap_size) t ∧ t { nx := fun _ H' => Q .non H', rt := Q } (L2.start ["self"] vs) H := by
      obtain ⟨p, ns, cs, rfl, hA, k⟩ := h
      obtain ⟨dx, tn, tc, d, kvs, hA1⟩ := id hA
      obtain ⟨_, zs, et, hz, hzl, hzc⟩ := cells_tup hA1.cls
      cases et
      refine ⟨_, ((pss_one (ps_ret (pe_callB cr_len rfl T.f_len (by decide +kernel) (pa_cons (pe_fld (pv 0) rfl) pa_nil))))), ?_⟩
      dsimp only [cxOf, Cx.nox]
      repeat walk_at "st"
      refine k_fldE hA1.ins T.cls_Heap T.no_Heap_cells (hf_cells _ _ _) ?_
      repeat walk_at "st"
      rw [hzl]
      exact k
    obtain ⟨t, ht, q⟩ := z
    exact ⟨t, ht.nox, q⟩
theorem c_l_heap (Y : Ty P w K mg) : Cal P w K mg base CX0 3 "_law_heap" ["told", "names", "cells"] (spLHeap K) := by
  have T := Y.T
  refine cal_mk T.D_l_heap T.m__law_heap sc_l_heap (fun _ _ _ _ _ _ us hl => match us, hl with | [_, _, _], _ => rfl) (fun vs H Q E h => ?_) (fun f cdv A outer s H vs Q E hr h => ?_)
  · obtain ⟨p, a, b, ns, ms, cs, ds, rfl, _⟩ := h
    rfl
  · obtain ⟨p, a, b, ns, ms, cs, ds, rfl, hA, hN, hC, hnl, hcl, hn, hc, k⟩ := h
    obtain ⟨dx, tn, tc, d, kvs, hA1⟩ := id hA
    refine ⟨_, ((pss_cons (ps_if (pt_not (pt_val (pe_callB call_isi rfl T.f_isinstance (by decide +kernel) (pa_cons (pv 0) (pa_cons (by exact C8.pe_gc rfl T.c_Heap) pa_nil))))) (pss_one (ps_ret pe_bl)) pss_nil)
  (pss_cons (ps_set (i := 3) sc_l_heap.nd rfl (Or.inl rfl) (pe_tup (pa_cons (pe_fld (pv 0) rfl) (pa_cons (pe_fld (pv 0) rfl) (pa_cons (pe_prp (pv 0) T.cls_Heap (sz_Heap Y) hr (by decide) pass0 rfl) pa_nil)))))
  (pss_one (ps_ret (by exact pe_cal (c_l_same T) hr (by decide) rfl pass0 (pa_cons (pv 3) (pa_cons (by exact pe_cal (c_l_due T) hr (by decide) rfl pass0 (pa_cons (pv 1) (pa_cons (pv 2) pa_nil))) pa_nil)))))))), ?_⟩
    dsimp only [cxOf, Cx.nox]
    repeat walk_at "st"
    refine ⟨_, _, _, _, true, rfl, .own _, Y.tyx hA1.ins, Y.kh, ?_⟩
    repeat walk_at "st"
    refine k_fldE hA1.ins T.cls_Heap T.no_Heap_names (hf_names _ _ _) ?_
    repeat walk_at "st"
    refine k_fldE hA1.ins T.cls_Heap T.no_Heap_cells (hf_cells _ _ _) ?_
    repeat walk_at "st"
    refine k_prop ?_
    repeat walk_at "st"
    refine ⟨p, _, _, rfl, hA1.ins, p, ns, cs, rfl, hA, ?_⟩
    repeat walk_at "st"
    intro t H1 ht e1 h1
    repeat walk_at "st"
    refine ⟨a, b, ms, ds, rfl, hN.ex e1, hnl, hC.ex e1, hcl, fun H2 t2 ns' cs' e2 on mn oc mc lc ln hD => ?_⟩
    repeat walk_at "st"
    have en : ns' = ns := on.uniq hA1.no fun c => (mn c).trans (hn c).symm
    have ec : cs' = cs := oc.uniq hA1.co fun c => (mc c).trans (hc c).symm
    subst en ec
    refine ⟨_, _, dDue ns' cs', rfl, .tup (.inl (.inl (e2.get h1))) (.cons (Dp_ex (e1.trans e2) _ _ hA1.nms) (.cons (Dp_ex (e1.trans e2) _ _ hA1.cls) (.cons (.int _) .nil))), hD, ?_, fun H3 e3 => k H3 (e1.trans (e2.trans e3))⟩
    rw [wt_due]
    omega
end


/-! ### names that are drawn -/
def abc : Str := "abcdefghijklmnopqrstuvwxyz"
def LetZ (z : Str) (n : Nat) : Prop := z.length = n ∧ ∀ c ∈ z.cps.toList, letterB c = true
theorem abc_at {i : Int} (h0 : 0 ≤ i) (h1 : i < 26) : ∃ c, atI abc.cps.toList i = some c ∧ letterB c = true := by
  have hl : abc.cps.toList.length = 26 := by decide +kernel
  have hlt : i.toNat < abc.cps.toList.length := by omega
  refine ⟨abc.cps.toList[i.toNat], atI_of h0 (List.getElem?_eq_getElem hlt), ?_⟩
  exact decide_eq_true (List.getElem_mem hlt)
theorem letter_small {c : Nat} (h : letterB c = true) : c < 128 := by
  have h2 : c ∈ abc.cps.toList := of_decide_eq_true h
  have : ∀ c ∈ abc.cps.toList, c < 128 := by decide +kernel
  exact this c h2
theorem name_ok {z : Str} {n : Nat} (h : LetZ z n) (h1 : 1 ≤ n) (h4 : n ≤ 4) (hn : inV (.str z) (notNames.map V.str) = false) : nameB z = true ∧ z.length ≤ 100 ∧ PyData.strOk z = true := by
  obtain ⟨hl, hc⟩ := h
  refine ⟨?_, by omega, ?_⟩
  · unfold nameB lettersB
    rw [hn, decide_eq_true (by omega : (1 : Int) ≤ (z.length : Int)), decide_eq_true (by omega : (z.length : Int) ≤ 4), List.all_eq_true.mpr hc]
    rfl
  · unfold PyData.strOk
    rw [Array.all_eq_true_iff_forall_mem]
    intro c hcm
    have := letter_small (hc c (Array.mem_toList_iff.mpr hcm))
    exact decide_eq_true (by omega)
theorem LetZ.snoc {z : Str} {n c : Nat} (h : LetZ z n) (hc : letterB c = true) : LetZ (z ++ ⟨#[c]⟩) (n + 1) := by
  refine ⟨by rw [Str.length_append, h.1]; rfl, fun d hd => ?_⟩
  have e : (z ++ ⟨#[c]⟩ : Str).cps.toList = z.cps.toList ++ [c] := by
    rw [Str.cps_append]
    simp
  rw [e] at hd
  rcases List.mem_append.mp hd with q | q
  · exact h.2 d q
  · have : d = c := by simpa using q
    rw [this]; exact hc
theorem q_ok {c : Nat} (h : letterB c = true) : nameB (⟨#[c]⟩ ++ "q" : Str) = true ∧ (⟨#[c]⟩ ++ "q" : Str).length ≤ 100 ∧ PyData.strOk (⟨#[c]⟩ ++ "q" : Str) = true := by
  have l1 : LetZ ⟨#[c]⟩ 1 := ⟨rfl, fun d hd => by
    have : d = c := by simpa using hd
    rw [this]; exact h⟩
  have l2 : LetZ (⟨#[c]⟩ ++ "q" : Str) 2 := l1.snoc (c := 113) (by decide +kernel)
  refine name_ok l2 (by decide) (by decide) ?_
  have key : ∀ w ∈ notNames, w.cps.toList[1]? ≠ some 113 := by decide +kernel
  unfold inV
  rw [List.any_eq_false]
  intro v hv
  obtain ⟨w, hw, rfl⟩ := List.mem_map.mp hv
  intro e
  have e2 : w = (⟨#[c]⟩ ++ "q" : Str) := by simpa [eqV] using e
  refine key w hw ?_
  rw [e2, Str.cps_append]
  rfl
theorem cut1 {z : Str} {n : Nat} (h : LetZ z n) (h1 : 1 ≤ n) : ∃ c, letterB c = true ∧ cutS z none (some 1) = ⟨#[c]⟩ := by
  have e0 : z.cps.toList.length = n := by rw [Array.length_toList]; exact h.1
  cases hz : z.cps.toList with
  | nil => rw [hz] at e0; simp at e0; omega
  | cons c r =>
    refine ⟨c, h.2 c (by rw [hz]; exact List.mem_cons_self ..), ?_⟩
    unfold cutS
    have s1 : HT.sIx z.length z.length (some 1) = 1 := by
      have := HT.sIx_nat z.length z.length 1
      rw [show ((1 : Nat) : Int) = 1 from rfl] at this
      rw [this, h.1]
      omega
    rw [hz, s1]
    rfl
theorem inV_str (z : Str) (zs : List Str) : inV (.str z) (zs.map V.str) = decide (z ∈ zs) := by
  unfold inV
  by_cases h : z ∈ zs
  · rw [decide_eq_true h, List.any_eq_true]
    exact ⟨.str z, List.mem_map.mpr ⟨z, h, rfl⟩, by simp [eqV]⟩
  · rw [decide_eq_false h, List.any_eq_false]
    intro v hv
    obtain ⟨y, hy, rfl⟩ := List.mem_map.mp hv
    intro e
    have : y = z := by simpa [eqV] using e
    exact h (this ▸ hy)
theorem flat_str (zs : List Str) : (zs.map V.str).all flatV = true := by
  rw [List.all_eq_true]
  intro v hv
  obtain ⟨y, _, rfl⟩ := List.mem_map.mp hv
  rfl
def GoodN (z : Str) : Prop := nameB z = true ∧ z.length ≤ 100 ∧ PyData.strOk z = true
def spLNames (K : PySem.W.Frag) : Sp := fun vs H Q _ => ∃ (p : Addr) (m : Int), vs = [.ref p, .int m] ∧ Pool H p ∧ 0 ≤ m ∧ m ≤ 8 ∧
  ∀ H' l (zs : List Str), ExB p H H' → Pool H' p → H l = none → H' l = some (.lst (zs.map V.str)) → zs.Nodup → (∀ z ∈ zs, GoodN z) → zs.length ≤ m.toNat → (1 ≤ m → zs ≠ []) → Q (.ref l) H'
def LnI (p l wl : Addr) (m : Int) (H : Hp) (i : Nat) (σ : L2.St) (H' : Hp) : Prop := ∃ (v5 v6 v7 v8 : Option V) (zs : List Str), σ = [some (.ref p), some (.int m), some (.ref l), some (.str abc), some (.ref wl), v5, v6, v7, v8] ∧
  ExB p H H' ∧ Pool H' p ∧ H' l = some (.lst (zs.map V.str)) ∧ H' wl = some (.lst (notNames.map V.str)) ∧ zs.Nodup ∧ (∀ z ∈ zs, GoodN z) ∧ zs.length ≤ i ∧ (1 ≤ i → zs ≠ [])
def LnJ (p l wl : Addr) (m : Int) (k : Int) (low : Int) (H : Hp) (zs : List Str) (j : Nat) (σ : L2.St) (H' : Hp) : Prop := ∃ (v8 : Option V) (z : Str), σ = [some (.ref p), some (.int m), some (.ref l), some (.str abc), some (.ref wl), some (.int k), some (.str z), some (.int low), v8] ∧
  ExB p H H' ∧ Pool H' p ∧ H' l = some (.lst (zs.map V.str)) ∧ H' wl = some (.lst (notNames.map V.str)) ∧ LetZ z j
section
variable {P : Program} {w : World} {K : PySem.W.Frag} {mg : Str → Option Value} {base : Heap}
theorem c_l_names (T : Tx w K mg) : Cal P w K mg base CX0 2 "_law_names" ["pool", "many"] (spLNames K) := by
  refine cal_mk T.D_l_names T.m__law_names sc_l_names (fun _ _ _ _ _ _ us hl => match us, hl with | [_, _], _ => rfl) (fun vs H Q E h => ?_) (fun f cdv A outer s H vs Q E hr h => ?_)
  · obtain ⟨p, m, rfl, _⟩ := h
    rfl
  · obtain ⟨p, m, rfl, hP, hm0, hm8, k⟩ := h
    refine ⟨_, ((pss_cons (ps_par (i := 2) (j := 3) rfl sc_l_names.nd rfl rfl (by decide) rfl rfl (pa_cons (pe_lst pa_nil) (pa_cons pe_str pa_nil)) rfl)
  (pss_cons (ps_set (i := 4) sc_l_names.nd rfl (Or.inl rfl) (pe_lst (pa_cons pe_str (pa_cons pe_str (pa_cons pe_str (pa_cons pe_str (pa_cons pe_str (pa_cons pe_str (pa_cons pe_str (pa_cons pe_str (pa_cons pe_str pa_nil)))))))))))
  (pss_cons (ps_set (i := 4) sc_l_names.nd rfl (Or.inl rfl) (pe_op op_cat (pv 4) (pe_lst (pa_cons pe_str (pa_cons pe_str (pa_cons pe_str (pa_cons pe_str (pa_cons pe_str (pa_cons pe_str pa_nil)))))))))
  (pss_cons (ps_for PassesOwn.never rfl (pi_range1 rfl T.f_range (pa_cons (pv 1) pa_nil)) (pg_name (i := 5) sc_l_names.nd rfl (Or.inl rfl)) (pss_cons (ps_par (i := 6) (j := 7) rfl sc_l_names.nd rfl rfl (by decide) rfl rfl (pa_cons pe_str (pa_cons (pe_ix (ix_listK (K := K) rfl) (pe_lst (pa_cons pe_int (pa_cons pe_int (pa_cons pe_int (pa_cons pe_int (pa_cons pe_int (pa_cons pe_int (pa_cons pe_int (pa_cons pe_int pa_nil))))))))) (pv 5) (fun _ _ => rfl)) pa_nil)) rfl)
  (pss_cons (ps_for PassesOwn.never rfl (pi_range1 rfl T.f_range (pa_cons (pe_op o_add pe_int (pe_op o_mod (pe_callTy cr_int rfl T.f_int (by decide +kernel) (pa_cons (pe_op o_add (pv 5) (by exact pe_cal (c_l_draw T) hr (by decide) rfl pass0 (pa_cons (pv 0) (pa_cons pe_int pa_nil)))) pa_nil)) pe_int)) pa_nil)) (pg_name (i := 8) sc_l_names.nd rfl (Or.inl rfl)) (pss_one (ps_set (i := 6) sc_l_names.nd rfl (Or.inl rfl) (pe_op o_addS (pv 6) (pe_ix ix_str (pv 3) (pe_op o_mod (pe_callTy cr_int rfl T.f_int (by decide +kernel) (pa_cons (pe_op o_add (pe_op o_add (pv 7) (pv 8)) (by exact pe_cal (c_l_draw T) hr (by decide) rfl pass0 (pa_cons (pv 0) (pa_cons pe_int pa_nil)))) pa_nil)) pe_int) (fun _ _ => rfl))))))
  (pss_cons (ps_if (pt_cmpR op_in_seq (pv 6) (pv 4) rfl) (pss_one (ps_set (i := 6) sc_l_names.nd rfl (Or.inl rfl) (pe_op o_addS (pe_slice sl_str (pv 6) po_none (po_some pe_int)) pe_str))) pss_nil)
  (pss_one (ps_if (pt_cmpR op_notIn_seq (pv 6) (pv 2) rfl) (pss_one (ps_expr (pe_bm PySem.F.plainAttrs_list PySem.F.slot_list_append PySem.F.type_list_append mt_append (pv 2) (pa_cons (pv 6) pa_nil)))) pss_nil))))))
  (pss_one (ps_ret (pv 2)))))))), ?_⟩
    dsimp only [cxOf, Cx.nox]
    repeat walk_at "st"
    intro l H1 hl e1 h1
    repeat walk_at "st"
    intro w1 H2 hw1 e2 h2
    repeat walk_at "st"
    intro w2 H3 hw2 e3 h3
    repeat walk_at "st"
    refine k_cat (e3.get h2) h3 (by rw [sizeLine_eq]; decide) fun wl H4 hwl e4 h4 => ?_
    repeat walk_at "st"
    have e04 : Ex H H4 := e1.trans (e2.trans (e3.trans e4))
    have l4 := (e2.trans (e3.trans e4)).get h1
    have P4 : Pool H4 p := by
      obtain ⟨o, ho, po⟩ := hP
      exact ⟨o, e04.get ho, po⟩
    have npl : l ≠ p := fun z => by
      obtain ⟨o, ho, po⟩ := hP
      rw [z, ho] at hl
      cases hl
    have npw : wl ≠ p := fun z => by
      obtain ⟨o, ho, po⟩ := hP
      rw [z, e1.trans (e2.trans e3) _ _ ho] at hwl
      cases hwl
    have nlw : wl ≠ l := fun z => by rw [z, (e2.trans e3).get h1] at hwl; cases hwl
    refine for_range (lo := 0) (LnI p l wl m H) ⟨none, none, none, none, [], rfl, ExB.of e04, P4, l4, h4, by simp, (fun _ h => nomatch h), Nat.le_refl _, fun h => absurd h (by decide)⟩ (fun i σ' H' hi ⟨v5, v6, v7, v8, zs, es, b, hP', hL, hW, nd, gd, hlen, hne⟩ => ?_) (fun σ' H' ⟨v5, v6, v7, v8, zs, es, b, hP', hL, hW, nd, gd, hlen, hne⟩ => ?_)
    · subst es
      have hi8 : i < 8 := by omega
      repeat walk_at "st"
      intro q1 H5 hq1 e5 h5
      repeat walk_at "st"
      obtain ⟨lw, hlw⟩ : ∃ lw : Int, atI [V.int 23, V.int 0, V.int 12, V.int 25, V.int 4, V.int 8, V.int 16, V.int 2] (0 + (i : Int)) = some (V.int lw) ∧ 0 ≤ lw := by
        have hx : i = 0 ∨ i = 1 ∨ i = 2 ∨ i = 3 ∨ i = 4 ∨ i = 5 ∨ i = 6 ∨ i = 7 := by omega
        rcases hx with h | h | h | h | h | h | h | h <;> subst h
        · exact ⟨23, rfl, by decide⟩
        · exact ⟨0, rfl, by decide⟩
        · exact ⟨12, rfl, by decide⟩
        · exact ⟨25, rfl, by decide⟩
        · exact ⟨4, rfl, by decide⟩
        · exact ⟨8, rfl, by decide⟩
        · exact ⟨16, rfl, by decide⟩
        · exact ⟨2, rfl, by decide⟩
      refine k_ixL (.inl (.inl h5)) hlw.1 ?_
      repeat walk_at "st"
      have P5 : Pool H5 p := by
        obtain ⟨o, ho, po⟩ := hP'
        exact ⟨o, e5.get ho, po⟩
      refine ⟨p, 4, rfl, P5, by decide, fun r H6 r0 r4 P6 b6 => ?_⟩
      repeat walk_at "st"
      have l6 := b6 _ _ npl (e5.get hL)
      have w6 := b6 _ _ npw (e5.get hW)
      have b06 : ExB p H H6 := b.trans ((ExB.of e5).trans b6)
      have hz0 : LetZ ("" : Str) 0 := ⟨rfl, fun c hc => nomatch (show c ∈ ([] : List Nat) from hc)⟩
      have hN : 1 ≤ (1 + (0 + (i : Int) + r) % 4).toNat ∧ (1 + (0 + (i : Int) + r) % 4).toNat ≤ 4 := by omega
      generalize (1 + (0 + (i : Int) + r) % 4).toNat = N at hN
      refine for_range (lo := 0) (LnJ p l wl m (0 + (i : Int)) lw H zs) ⟨v8, "", rfl, b06, P6, l6, w6, hz0⟩ (fun j σ' H7 hj ⟨v8, z, es, b7, P7, l7, w7, hz⟩ => ?_) (fun σ' H8 ⟨v8, z, es, b8, P8, hL8, hW8, hz⟩ => ?_)
      · subst es
        repeat walk_at "st"
        refine ⟨p, 26, rfl, P7, by decide, fun r H8 r0 r26 P8 b8 => ?_⟩
        repeat walk_at "st"
        have hx : 0 ≤ (lw + (0 + (j : Int)) + r) % 26 ∧ (lw + (0 + (j : Int)) + r) % 26 < 26 := ⟨Int.emod_nonneg _ (by decide), Int.emod_lt_of_pos _ (by decide)⟩
        obtain ⟨c, hc, lc⟩ := abc_at hx.1 hx.2
        refine ⟨abc, _, c, rfl, rfl, by rw [sizeLine_eq]; decide, hc, ?_⟩
        refine k_addS (by rw [hz.1, sizeLine_eq]; show j + 1 ≤ _; omega) ?_
        exact ⟨_, _, rfl, b7.trans b8, P8, b8 _ _ npl l7, b8 _ _ npw w7, hz.snoc lc⟩
      · subst es
        repeat walk_at "st"
        refine k_in (xs := notNames.map V.str) (.inl (.inl (.inl hW8))) rfl (by decide +kernel) ?_
        rw [if_neg (by decide)]
        cases hin0 : inV (.str z) (notNames.map V.str) with
        | true =>
          repeat walk_at "st"
          obtain ⟨c, lc, hcut⟩ := cut1 hz hN.1
          refine ⟨z, rfl, by rw [hz.1, sizeLine_eq]; omega, ?_⟩
          rw [hcut]
          repeat walk_at "st"
          refine k_addS (by rw [sizeLine_eq]; show 1 + 1 ≤ _; decide) ?_
          repeat walk_at "st"
          refine k_in (xs := zs.map V.str) (.inl (.inl (.inl hL8))) rfl (flat_str zs) ?_
          rw [if_pos rfl, inV_str]
          by_cases hin : (⟨#[c]⟩ ++ "q" : Str) ∈ zs
          · rw [decide_eq_true hin]
            repeat walk_at "st"
            exact ⟨_, _, _, _, zs, rfl, b8, P8, hL8, hW8, nd, gd, by omega, fun _ z => by rw [z] at hin; cases hin⟩
          · rw [decide_eq_false hin]
            repeat walk_at "st"
            intro H9 b9 h9
            repeat walk_at "st"
            have e9 : zs.map V.str ++ [V.str ((⟨#[c]⟩ ++ "q" : Str))] = (zs ++ [(⟨#[c]⟩ ++ "q" : Str)]).map V.str := by rw [List.map_append]; rfl
            rw [e9] at h9
            refine ⟨_, _, _, _, zs ++ [(⟨#[c]⟩ ++ "q" : Str)], rfl, ?_, ?_, h9, b9 _ _ nlw hW8, ?_, ?_, by rw [List.length_append]; simp; omega, fun _ => by simp⟩
            · exact fun a o hne ha => b9 _ _ (fun z => by rw [z, hl] at ha; cases ha) (b8 a o hne ha)
            · obtain ⟨o, ho, po⟩ := P8
              exact ⟨o, b9 _ _ (Ne.symm npl) ho, po⟩
            · refine List.nodup_append.mpr ⟨nd, by simp, fun x hx y hy e => ?_⟩
              have : y = (⟨#[c]⟩ ++ "q" : Str) := by simpa using hy
              subst this
              exact hin (e ▸ hx)
            · intro y hy
              rcases List.mem_append.mp hy with q | q
              · exact gd y q
              · have : y = (⟨#[c]⟩ ++ "q" : Str) := by simpa using q
                rw [this]
                exact q_ok lc
        | false =>
          repeat walk_at "st"
          refine k_in (xs := zs.map V.str) (.inl (.inl (.inl hL8))) rfl (flat_str zs) ?_
          rw [if_pos rfl, inV_str]
          by_cases hin : z ∈ zs
          · rw [decide_eq_true hin]
            repeat walk_at "st"
            exact ⟨_, _, _, _, zs, rfl, b8, P8, hL8, hW8, nd, gd, by omega, fun _ z => by rw [z] at hin; cases hin⟩
          · rw [decide_eq_false hin]
            repeat walk_at "st"
            intro H9 b9 h9
            repeat walk_at "st"
            have e9 : zs.map V.str ++ [V.str (z)] = (zs ++ [z]).map V.str := by rw [List.map_append]; rfl
            rw [e9] at h9
            refine ⟨_, _, _, _, zs ++ [z], rfl, ?_, ?_, h9, b9 _ _ nlw hW8, ?_, ?_, by rw [List.length_append]; simp; omega, fun _ => by simp⟩
            · exact fun a o hne ha => b9 _ _ (fun z => by rw [z, hl] at ha; cases ha) (b8 a o hne ha)
            · obtain ⟨o, ho, po⟩ := P8
              exact ⟨o, b9 _ _ (Ne.symm npl) ho, po⟩
            · refine List.nodup_append.mpr ⟨nd, by simp, fun x hx y hy e => ?_⟩
              have : y = z := by simpa using hy
              subst this
              exact hin (e ▸ hx)
            · intro y hy
              rcases List.mem_append.mp hy with q | q
              · exact gd y q
              · have : y = z := by simpa using q
                rw [this]
                exact name_ok hz hN.1 hN.2 hin0
    · subst es
      repeat walk_at "st"
      exact k H' l zs b hP' hl hL nd gd hlen fun h => hne (by omega)
end


/-! ### places that are drawn -/
theorem nodup_le : ∀ {l1 l2 : List Int}, l1.Nodup → (∀ x ∈ l1, x ∈ l2) → l1.length ≤ l2.length
  | [], _, _, _ => Nat.zero_le _
  | a :: l, l2, nd, h => by
    rw [List.nodup_cons] at nd
    have ha := h a (List.mem_cons_self ..)
    have ih := nodup_le (l2 := l2.erase a) nd.2 fun x hx => (List.mem_erase_of_ne (fun (z : x = a) => nd.1 (z ▸ hx))).mpr (h x (List.mem_cons_of_mem _ hx))
    rw [List.length_erase_of_mem ha] at ih
    have : 0 < l2.length := List.length_pos_of_mem ha
    rw [List.length_cons]
    omega
def fPl (b : Int) (i : Nat) : Int := (b + i) % 9999 + 1
theorem inV_int (z : Int) (zs : List Int) : inV (.int z) (zs.map V.int) = decide (z ∈ zs) := by
  unfold inV
  by_cases h : z ∈ zs
  · rw [decide_eq_true h, List.any_eq_true]
    exact ⟨.int z, List.mem_map.mpr ⟨z, h, rfl⟩, by simp [eqV]⟩
  · rw [decide_eq_false h, List.any_eq_false]
    intro v hv
    obtain ⟨y, hy, rfl⟩ := List.mem_map.mp hv
    intro e
    have : y = z := by simpa [eqV] using e
    exact h (this ▸ hy)
theorem flat_int (zs : List Int) : (zs.map V.int).all flatV = true := by
  rw [List.all_eq_true]
  intro v hv
  obtain ⟨y, _, rfl⟩ := List.mem_map.mp hv
  rfl
/-- after t turns -/
def Turned (L : List Int) (t : Nat) (x : Int) : Prop := (1 ≤ x ∧ x ≤ 9999 ∧ x ∉ L) ∨ (1 ≤ x ∧ ∃ b : Int, (t = 0 → x = b) ∧ (∀ u, t = u + 1 → x = fPl b u) ∧ ∀ i, i + 1 < t → fPl b i ∈ L)
theorem Turned.stay {L : List Int} {t : Nat} {x : Int} (h : Turned L t x) (h1 : ¬ 9999 < x) (h2 : x ∉ L) : Turned L (t + 1) x := by
  rcases h with h | ⟨h, _⟩
  · exact .inl h
  · exact .inl ⟨h, by omega, h2⟩
theorem Turned.next {L : List Int} {t : Nat} {x : Int} (h : Turned L t x) (hc : 9999 < x ∨ x ∈ L) : Turned L (t + 1) (x % 9999 + 1) := by
  rcases h with ⟨h1, h2, h3⟩ | ⟨h1, b, h2, h3, h4⟩
  · rcases hc with z | z
    · omega
    · exact absurd z h3
  · refine .inr ⟨by omega, b, fun z => by omega, fun u hu => ?_, fun i hi => ?_⟩
    · obtain rfl : u = t := by omega
      cases u with
      | zero =>
        rw [h2 rfl]
        unfold fPl
        simp
      | succ v =>
        have := h3 v rfl
        rw [this]
        unfold fPl
        omega
    · by_cases e : i + 1 < t
      · exact h4 i e
      · obtain rfl : t = i + 1 := by omega
        have := h3 i rfl
        rcases hc with z | z
        · unfold fPl at this
          omega
        · rw [← this]; exact z
theorem Turned.done {L : List Int} {x : Int} (h : Turned L 99 x) (hl : L.length ≤ 90) : 1 ≤ x ∧ x ≤ 9999 ∧ x ∉ L := by
  rcases h with h | ⟨_, b, _, _, h4⟩
  · exact h
  · exfalso
    have nd : ((List.range 98).map (fPl b)).Nodup := by
      rw [List.nodup_iff_pairwise_ne, List.pairwise_map]
      have p : (List.range 98).Pairwise (fun a b => a < b ∧ b < 98) := by
        rw [List.pairwise_iff_getElem]
        intro i j hi hj hij
        rw [List.getElem_range, List.getElem_range]
        rw [List.length_range] at hj
        exact ⟨hij, hj⟩
      exact p.imp fun {a c} h e => by
        unfold fPl at e
        omega
    have := nodup_le nd fun y hy => by
      obtain ⟨i, hi, rfl⟩ := List.mem_map.mp hy
      exact h4 i (by have := List.mem_range.mp hi; omega)
    rw [List.length_map, List.length_range] at this
    omega
def spLPlaces (K : PySem.W.Frag) : Sp := fun vs H Q _ => ∃ (p : Addr) (m : Int), vs = [.ref p, .int m] ∧ Pool H p ∧ 0 ≤ m ∧ m ≤ 70 ∧
  ∀ H' l (ps : List Int), ExB p H H' → Pool H' p → H l = none → H' l = some (.lst ((0 :: ps).map V.int)) → ps.length = m.toNat → ((0 : Int) :: ps).Nodup → (∀ q ∈ ps, 1 ≤ q ∧ q ≤ 9999) → Q (.ref l) H'
def PlI (p l : Addr) (m : Int) (H : Hp) (i : Nat) (σ : L2.St) (H' : Hp) : Prop := ∃ (v3 v4 v5 : Option V) (ps : List Int), σ = [some (.ref p), some (.int m), some (.ref l), v3, v4, v5] ∧ ExB p H H' ∧ Pool H' p ∧ H' l = some (.lst (((0 : Int) :: ps).map V.int)) ∧ ps.length = i ∧ ((0 : Int) :: ps).Nodup ∧ (∀ q ∈ ps, 1 ≤ q ∧ q ≤ 9999)
def PlJ (p l : Addr) (m k : Int) (H9 : Hp) (L : List Int) (t : Nat) (σ : L2.St) (H' : Hp) : Prop := ∃ (x : Int) (v5 : Option V), σ = [some (.ref p), some (.int m), some (.ref l), some (.int k), some (.int x), v5] ∧ H' = H9 ∧ Turned L t x
section
variable {P : Program} {w : World} {K : PySem.W.Frag} {mg : Str → Option Value} {base : Heap}
theorem c_l_places (T : Tx w K mg) : Cal P w K mg base CX0 2 "_law_places" ["pool", "many"] (spLPlaces K) := by
  refine cal_mk T.D_l_places T.m__law_places sc_l_places (fun _ _ _ _ _ _ us hl => match us, hl with | [_, _], _ => rfl) (fun vs H Q E h => ?_) (fun f cdv A outer s H vs Q E hr h => ?_)
  · obtain ⟨p, m, rfl, _⟩ := h
    rfl
  · obtain ⟨p, m, rfl, hP, hm0, hm8, k⟩ := h
    refine ⟨_, ((pss_cons (ps_set (i := 2) sc_l_places.nd rfl (Or.inl rfl) (pe_lst (pa_cons pe_int pa_nil)))
  (pss_cons (ps_for PassesOwn.never rfl (pi_range1 rfl T.f_range (pa_cons (pv 1) pa_nil)) (pg_name (i := 3) sc_l_places.nd rfl (Or.inl rfl)) (pss_cons (ps_set (i := 4) sc_l_places.nd rfl (Or.inl rfl) (pe_op o_add (pe_ix (ix_listK (K := K) rfl) (pe_lst (pa_cons pe_int (pa_cons pe_int (pa_cons pe_int (pa_cons pe_int (pa_cons pe_int (pa_cons pe_int (pa_cons pe_int (pa_cons pe_int (pa_cons pe_int (pa_cons pe_int pa_nil))))))))))) (pe_op o_mod (pe_callTy cr_int rfl T.f_int (by decide +kernel) (pa_cons (pv 3) pa_nil)) pe_int) (fun _ _ => rfl)) (pe_op o_mul pe_int (pe_op o_fdiv (pv 3) pe_int))))
  (pss_cons (ps_set (i := 4) sc_l_places.nd rfl (Or.inl rfl) (pe_op o_add (pe_op o_add (pv 4) (by exact pe_cal (c_l_draw T) hr (by decide) rfl pass0 (pa_cons (pv 0) (pa_cons pe_int pa_nil)))) (pe_op o_mul pe_int (by exact pe_cal (c_l_draw T) hr (by decide) rfl pass0 (pa_cons (pv 0) (pa_cons pe_int pa_nil))))))
  (pss_cons (ps_set (i := 4) sc_l_places.nd rfl (Or.inl rfl) (pe_op o_add (pv 4) (pe_op o_mul pe_int (by exact pe_cal (c_l_draw T) hr (by decide) rfl pass0 (pa_cons (pv 0) (pa_cons pe_int pa_nil))))))
  (pss_cons (ps_for PassesOwn.never rfl (pi_range1 rfl T.f_range (pa_cons pe_int pa_nil)) (pg_name (i := 5) sc_l_places.nd rfl (Or.inl rfl)) (pss_one (ps_if (PW.pt (pw_or (pt_cmpR o_gt (pv 4) pe_int (nomark _)) (pw_or1 (pt_cmpR op_in_seq (pv 4) (pv 2) rfl)))) (pss_one (ps_set (i := 4) sc_l_places.nd rfl (Or.inl rfl) (pe_op o_add (pe_op o_mod (pe_callTy cr_int rfl T.f_int (by decide +kernel) (pa_cons (pv 4) pa_nil)) pe_int) pe_int))) pss_nil)))
  (pss_one (ps_expr (pe_bm PySem.F.plainAttrs_list PySem.F.slot_list_append PySem.F.type_list_append mt_append (pv 2) (pa_cons (pv 4) pa_nil)))))))))
  (pss_one (ps_ret (pv 2)))))), ?_⟩
    dsimp only [cxOf, Cx.nox]
    repeat walk_at "st"
    intro l H1 hl e1 h1
    repeat walk_at "st"
    have P1 : Pool H1 p := by
      obtain ⟨o, ho, po⟩ := hP
      exact ⟨o, e1.get ho, po⟩
    have npl : l ≠ p := fun z => by
      obtain ⟨o, ho, po⟩ := hP
      rw [z, ho] at hl
      cases hl
    refine for_range (lo := 0) (PlI p l m H) ⟨none, none, none, [], rfl, ExB.of e1, P1, h1, rfl, by simp, (fun _ h => nomatch h)⟩ (fun i σ' H' hi ⟨v3, v4, v5, ps, es, b, hP', hL, hlen, nd, rg⟩ => ?_) (fun σ' H' ⟨v3, v4, v5, ps, es, b, hP', hL, hlen, nd, rg⟩ => ?_)
    · subst es
      have hi8 : i < 70 := by omega
      repeat walk_at "st"
      intro q1 H5 hq1 e5 h5
      repeat walk_at "st"
      obtain ⟨bv, hb, hb1⟩ : ∃ bv : Int, atI [V.int 3, V.int 7, V.int 1, V.int 12, V.int 9999, V.int 40, V.int 5, V.int 2, V.int 9, V.int 6] ((0 + (i : Int)) % 10) = some (V.int bv) ∧ 1 ≤ bv := by
        have hx : (0 + (i : Int)) % 10 = 0 ∨ (0 + (i : Int)) % 10 = 1 ∨ (0 + (i : Int)) % 10 = 2 ∨ (0 + (i : Int)) % 10 = 3 ∨ (0 + (i : Int)) % 10 = 4 ∨ (0 + (i : Int)) % 10 = 5 ∨ (0 + (i : Int)) % 10 = 6 ∨ (0 + (i : Int)) % 10 = 7 ∨ (0 + (i : Int)) % 10 = 8 ∨ (0 + (i : Int)) % 10 = 9 := by omega
        rcases hx with h | h | h | h | h | h | h | h | h | h <;> rw [h]
        · exact ⟨3, rfl, by decide⟩
        · exact ⟨7, rfl, by decide⟩
        · exact ⟨1, rfl, by decide⟩
        · exact ⟨12, rfl, by decide⟩
        · exact ⟨9999, rfl, by decide⟩
        · exact ⟨40, rfl, by decide⟩
        · exact ⟨5, rfl, by decide⟩
        · exact ⟨2, rfl, by decide⟩
        · exact ⟨9, rfl, by decide⟩
        · exact ⟨6, rfl, by decide⟩
      refine k_ixL (.inl (.inl h5)) hb ?_
      repeat walk_at "st"
      refine k_div ⟨by decide, by decide⟩ ?_
      repeat walk_at "st"
      have P5 : Pool H5 p := by
        obtain ⟨o, ho, po⟩ := hP'
        exact ⟨o, e5.get ho, po⟩
      refine ⟨p, 60, rfl, P5, by decide, fun r1 H6 r10 r160 P6 b6 => ?_⟩
      repeat walk_at "st"
      refine ⟨p, 60, rfl, P6, by decide, fun r2 H7 r20 r260 P7 b7 => ?_⟩
      repeat walk_at "st"
      refine ⟨p, 3, rfl, P7, by decide, fun r3 H8 r30 r360 P8 b8 => ?_⟩
      repeat walk_at "st"
      have b58 : ExB p H5 H8 := b6.trans (b7.trans b8)
      have l8 := b58 _ _ npl (e5.get hL)
      have b08 : ExB p H H8 := b.trans ((ExB.of e5).trans b58)
      have hx1 : 1 ≤ bv + 11 * ((0 + (i : Int)) / 10) + r1 + 60 * r2 + 3600 * r3 := by omega
      generalize bv + 11 * ((0 + (i : Int)) / 10) + r1 + 60 * r2 + 3600 * r3 = x0 at hx1
      refine for_range (lo := 0) (PlJ p l m (0 + (i : Int)) H8 ((0 : Int) :: ps)) ⟨x0, v5, rfl, rfl, .inr ⟨hx1, x0, fun _ => rfl, fun u z => by omega, fun i z => by omega⟩⟩ (fun t σ' H9 ht ⟨x, v5, es, eh, tu⟩ => ?_) (fun σ' H9 ⟨x, v5, es, eh, tu⟩ => ?_)
      · subst es eh
        repeat walk_at "st"
        by_cases c1 : 9999 < x
        · refine k_iteT c1 ?_
          repeat walk_at "st"
          exact ⟨_, _, rfl, rfl, tu.next (.inl c1)⟩
        · refine k_iteF c1 ?_
          repeat walk_at "st"
          refine k_in (xs := ((0 : Int) :: ps).map V.int) (.inl (.inl (.inl l8))) rfl (flat_int _) ?_
          rw [if_neg (by decide), inV_int]
          by_cases c2 : x ∈ (0 : Int) :: ps
          · rw [decide_eq_true c2]
            repeat walk_at "st"
            exact ⟨_, _, rfl, rfl, tu.next (.inr c2)⟩
          · rw [decide_eq_false c2]
            repeat walk_at "st"
            exact ⟨_, _, rfl, rfl, tu.stay c1 c2⟩
      · subst es eh
        obtain ⟨dn1, dn2, dn3⟩ := tu.done (by rw [List.length_cons]; omega)
        repeat walk_at "st"
        intro H10 b10 h10
        have e10 : ((0 : Int) :: ps).map V.int ++ [V.int x] = ((0 : Int) :: (ps ++ [x])).map V.int := by
          rw [List.map_cons, List.map_cons, List.map_append]
          rfl
        rw [e10] at h10
        refine ⟨_, _, _, ps ++ [x], rfl, ?_, ?_, h10, by rw [List.length_append]; simp; omega, ?_, ?_⟩
        · exact fun a o hne ha => b10 _ _ (fun z => by rw [z, hl] at ha; cases ha) (b08 a o hne ha)
        · obtain ⟨o, ho, po⟩ := P8
          exact ⟨o, b10 _ _ (Ne.symm npl) ho, po⟩
        · have : (0 : Int) :: (ps ++ [x]) = ((0 : Int) :: ps) ++ [x] := rfl
          rw [this]
          refine List.nodup_append.mpr ⟨nd, by simp, fun y hy z hz e => ?_⟩
          have : z = x := by simpa using hz
          subst this
          exact dn3 (e ▸ hy)
        · intro y hy
          rcases List.mem_append.mp hy with q | q
          · exact rg y q
          · have : y = x := by simpa using q
            rw [this]
            exact ⟨dn1, dn2⟩
    · subst es
      repeat walk_at "st"
      exact k H' l ps b hP' hl hL hlen nd rg
end


/-! ### _law_made -/
theorem unlock_ex {H H' : Hp} {a : Addr} {u : HO} {od : Obj} (hd : H a = some u) (e : Ex (upd H a (.frz od u)) H') : Ex H (upd H' a u) := fun x o h => by
  by_cases hx : x = a
  · rw [hx, upd_same, ← h, hx, hd]
  · rw [upd_ne hx]
    exact e x o (by rw [upd_ne hx]; exact h)
theorem unlock_exB {H H' : Hp} {a l : Addr} {u : HO} {od : Obj} (hd : H a = some u) (e : ExB l (upd H a (.frz od u)) H') : ExB l H (upd H' a u) := fun x o hl h => by
  by_cases hx : x = a
  · rw [hx, upd_same, ← h, hx, hd]
  · rw [upd_ne hx]
    exact e x o hl (by rw [upd_ne hx]; exact h)
theorem lock_exB {H : Hp} {a : Addr} {o : HO} : ExB a H (upd H a o) := ExB.upd
theorem paired_of {α : Type} {G : α → V → Prop} : ∀ {l : List α} {ys : List V}, l.length = ys.length → (∀ (i : Nat) (a : α) (y : V), l[i]? = some a → ys[i]? = some y → G a y) → Paired G l ys
  | [], [], _, _ => .nil
  | [], y :: ys, h, _ => by simp at h
  | a :: l, [], h, _ => by simp at h
  | a :: l, y :: ys, h, k => .cons (k 0 a y rfl rfl) (paired_of (by simpa using h) fun i b z h1 h2 => k (i + 1) b z (by simpa using h1) (by simpa using h2))
theorem paired_range {α : Type} {F : Nat → V → Prop} {G : α → V → Prop} {l : List α} {ys : List V} {n : Nat} (hn : n = l.length) (pr : Paired F (List.range n) ys) (h : ∀ i y a, l[i]? = some a → F i y → G a y) : Paired G l ys := by
  subst hn
  have hl := Paired.length pr
  rw [List.length_range] at hl
  refine paired_of hl fun i a y h1 h2 => ?_
  have hi := (List.getElem?_eq_some_iff.mp h1).1
  obtain ⟨z, e, f⟩ := Paired.get' pr (i := i) (x := i) (by rw [List.getElem?_range hi])
  rw [h2] at e
  cases e
  exact h i y a h1 f
theorem paired_rev {α β : Type} {G : α → β → Prop} {l : List α} {ys : List β} (p : Paired G l ys) : Paired G l.reverse ys.reverse := by
  induction p with
  | nil => exact .nil
  | cons h _ ih =>
    rw [List.reverse_cons, List.reverse_cons]
    exact Paired.snoc' h ih
def TNm (H : Hp) (n : Str × Int) (v : V) : Prop := ∃ t, v = V.ref t ∧ H t = some (.tup [.str n.1, .int n.2])
theorem dp_nms {K : PySem.W.Frag} {H : Hp} {ns : List (Str × Int)} {vs : List V} (p : Paired (TNm H) ns vs) : DpAll K H vs (ns.map dName) := by
  induction p with
  | nil => exact .nil
  | cons h _ ih =>
    obtain ⟨t, rfl, ht⟩ := h
    exact .cons (.tup (.inl (.inl ht)) (.cons (.str _) (.cons (.int _) .nil))) ih
mutual
/-- no list within -/
def noL : PyData → Bool
  | .list _ => false
  | .tuple ds => noLs ds
  | .dict _ => false
  | _ => true
def noLs : List PyData → Bool
  | [] => true
  | d :: ds => noL d && noLs ds
end
theorem exT_sqT {K : PySem.W.Frag} {H H' : Hp} (e : ExT H H') {a : Addr} {xs : List V} (h : SqT K H a xs) : SqT K H' a xs := by
  rcases h with (h | ⟨o, h⟩) | h
  · exact .inl (.inl (e _ _ (fun _ z => nomatch z) h))
  · exact .inl (.inr ⟨o, e _ _ (fun _ z => nomatch z) h⟩)
  · exact .inr h
mutual
theorem Dp_exT {K : PySem.W.Frag} {H H' : Hp} (e : ExT H H') : ∀ (d : PyData) (v : V), noL d = true → Dp K H v d → Dp K H' v d
  | .none, _, _, h => by cases h; exact .non
  | .bool b, _, _, h => by cases h; exact .bl b
  | .int i, _, _, h => by cases h; exact .int i
  | .str x, _, _, h => by cases h; exact .str x
  | .list ds, _, n, _ => by simp [noL] at n
  | .tuple ds, _, n, h => by
    cases h with
    | tup hs ha => exact .tup (exT_sqT e hs) (DpAll_exT e ds _ (by simpa [noL] using n) ha)
  | .dict _, _, _, h => by cases h
theorem DpAll_exT {K : PySem.W.Frag} {H H' : Hp} (e : ExT H H') : ∀ (ds : List PyData) (vs : List V), noLs ds = true → DpAll K H vs ds → DpAll K H' vs ds
  | [], _, _, h => by cases h; exact .nil
  | d :: ds, _, n, h => by
    cases h with
    | cons h1 h2 =>
      have n2 : noL d = true ∧ noLs ds = true := by simpa [noLs] using n
      exact .cons (Dp_exT e d _ n2.1 h1) (DpAll_exT e ds _ n2.2 h2)
end
theorem noL_names (ns : List (Str × Int)) : noL (dNames ns) = true := by
  unfold dNames
  simp only [noL]
  induction ns with
  | nil => rfl
  | cons n ns ih => rw [List.map_cons, noLs, ih]; simp [dName, noL, noLs]
theorem noL_cells (ns : List Cell) : noL (dCells ns) = true := by
  unfold dCells
  simp only [noL]
  induction ns with
  | nil => rfl
  | cons n ns ih => rw [List.map_cons, noLs, ih]; simp [dCell, noL, noLs]
theorem HeapAt.exT {K : PySem.W.Frag} {H H' : Hp} (e : ExT H H') {p : Addr} {ns : List (Str × Int)} {cs : List Cell} (h : HeapAt K H p ns cs) : HeapAt K H' p ns cs :=
  let ⟨dx, tn, tc, d, kvs, a⟩ := h
  ⟨dx, tn, tc, d, kvs, e _ _ (fun _ z => nomatch z) a.ins, Dp_exT e _ _ (noL_names ns) a.nms, Dp_exT e _ _ (noL_cells cs) a.cls, e _ _ (fun _ z => nomatch z) a.dic, a.rows.mono fun c v h => TRow.exT e h, a.lc, a.ln, a.co, a.no, a.sn, a.sc⟩
def spMade (K : PySem.W.Frag) : Sp := fun vs H Q _ => ∃ (a b : Addr) (tu : Bool) (ns : List (Str × Int)) (cs : List Cell), vs = [.ref a, .ref b, .bl tu] ∧ DictN H a ns ∧ (∀ n, n ∈ ns → NmIn n) ∧ ns.length ≤ 20 ∧ DictC H b cs ∧ (∀ c, c ∈ cs → CellIn c) ∧ cs.length ≤ 60 ∧ a ≠ b ∧
  ∀ H' p ns' cs', Ex H H' → HeapAt K H' p ns' cs' → (∀ n, n ∈ ns' ↔ n ∈ ns) → (∀ c, c ∈ cs' ↔ c ∈ cs) → Q (.ref p) H'
section
variable {P : Program} {w : World} {K : PySem.W.Frag} {mg : Str → Option Value} {base : Heap}
theorem c_l_made (T : Tx w K mg) : Cal P w K mg base CX0 6 "_law_made" ["names", "cells", "turned"] (spMade K) := by
  refine cal_mk T.D_l_made T.m__law_made sc_l_made (fun _ _ _ _ _ _ us hl => match us, hl with | [_, _, _], _ => rfl) (fun vs H Q E h => ?_) (fun f cdv A outer s H vs Q E hr h => ?_)
  · obtain ⟨a, b, tu, ns, cs, rfl, _⟩ := h
    rfl
  · obtain ⟨a, b, tu, ns, cs, rfl, hN, hNi, hnl, hC, hCi, hcl, hab, k⟩ := h
    obtain ⟨kvs, hk, hrw, nd⟩ := hC
    have hu := hu_of hr
    refine ⟨_, ((pss_cons (ps_par (i := 3) (j := 4) rfl sc_l_made.nd rfl rfl (by decide) rfl rfl (pa_cons (pe_lock (pe_lc (own := [("name", 5)]) rfl sc_l_made.nd (pi_keys (pv 0)) (blkOk_by (N := ["names", "cells", "turned", "pairs", "rows", "name", "place", "mark", "link", "share", "heap"]) (sc := defScope s_l_made) (by decide +kernel)) (fun _ _ _ _ _ => (pg_name (i := 5) sc_l_made.nd rfl (Or.inl rfl))) (fun _ _ _ _ _ => pts_nil) (fun _ _ _ _ _ => (pe_tup (pa_cons (pv 5) (pa_cons (pe_dget hu (pv 0) (pv 5) (fun _ _ => rfl)) pa_nil)))))) (pa_cons (pe_lst pa_nil) pa_nil)) rfl)
  (pss_cons (ps_lock (ps_for PassesOwn.never rfl (pi_keys (pv 1)) (pg_name (i := 6) sc_l_made.nd rfl (Or.inl rfl)) (pss_cons (ps_asg (pe_dget hu (pv 1) (pv 6) (fun _ _ => rfl)) (pg_tup (n := 3) rfl (pgs_cons (pg_name (i := 7) sc_l_made.nd rfl (Or.inl rfl)) (pgs_cons (pg_name (i := 8) sc_l_made.nd rfl (Or.inl rfl)) (pgs_cons (pg_name (i := 9) sc_l_made.nd rfl (Or.inl rfl)) pgs_nil)))))
  (pss_one (ps_expr (pe_bm PySem.F.plainAttrs_list PySem.F.slot_list_append PySem.F.type_list_append mt_append (pv 4) (pa_cons (pe_tup (pa_cons (pv 6) (pa_cons (pv 7) (pa_cons (pv 8) (pa_cons (pv 9) pa_nil))))) pa_nil)))))))
  (pss_cons (ps_if (pt_val (pv 2)) (pss_cons (ps_expr (pe_bm0 PySem.F.plainAttrs_list PySem.F.slot_list_reverse PySem.F.type_list_reverse mt_reverse (pv 3)))
  (pss_cons (ps_expr (pe_bm0 PySem.F.plainAttrs_list PySem.F.slot_list_reverse PySem.F.type_list_reverse mt_reverse (pv 4)))
  (pss_cons (ps_set (i := 10) sc_l_made.nd rfl (Or.inl rfl) (by exact pe_mak (m_Heap T) hr (by decide) rfl pass0 (pa_cons (pe_callTy cr_tupOf rfl T.f_tuple (by decide +kernel) (pa_cons (pv 3) pa_nil)) (pa_cons (pv 4) pa_nil))))
  (pss_cons (ps_expr (pe_bm PySem.F.plainAttrs_list PySem.F.slot_list_append PySem.F.type_list_append mt_append (pv 4) (pa_cons (pe_tup (pa_cons pe_int (pa_cons pe_str (pa_cons pe_int (pa_cons pe_int pa_nil))))) pa_nil)))
  (pss_one (ps_ret (pv 10))))))) pss_nil)
  (pss_cons (ps_set (i := 10) sc_l_made.nd rfl (Or.inl rfl) (by exact pe_mak (m_Heap T) hr (by decide) rfl pass0 (pa_cons (pv 3) (pa_cons (pe_callTy cr_tupOf rfl T.f_tuple (by decide +kernel) (pa_cons (pv 4) pa_nil)) pa_nil))))
  (pss_cons (ps_expr (pe_bm PySem.F.plainAttrs_list PySem.F.slot_list_append PySem.F.type_list_append mt_append (pv 3) (pa_cons (pe_tup (pa_cons pe_str (pa_cons pe_int pa_nil))) pa_nil)))
  (pss_one (ps_ret (pv 10))))))))), ?_⟩
    dsimp only [cxOf, Cx.nox]
    repeat walk_at "st"
    refine ⟨a, .dK (kvN ns), hN.1, trivial, fun od => ?_⟩
    repeat walk_at "st"
    refine ⟨_, rfl, a, od, rfl, .inl ⟨kvN ns, upd_same, ?_⟩⟩
    have hbu : upd H a (.frz od (.dK (kvN ns))) a = some (.frz od (.dK (kvN ns))) := upd_same
    have klen : (kvN ns).length = ns.length := List.length_map _
    refine lc_rel (walk_keys (kvs := kvN ns)) (fun _ => true) (fun i y H' => ∃ n t, ns[i]? = some n ∧ y = V.ref t ∧ H' t = some (.tup [.str n.1, .int n.2])) (by omega)
      (fun i y H H' e ⟨n, t, a, b, c⟩ => ⟨n, t, a, b, e _ _ (fun l z => nomatch z) c⟩) (fun H' e => e.get hbu) (fun i x H' H'' R1 R0 hi e y k1 k0 => ?_) (fun D H' vs hD e hL pr => ?_)
    · obtain ⟨rfl, kk, vv, y, rfl⟩ := y
      obtain ⟨n, hn⟩ : ∃ n, ns[i]? = some n := ⟨ns[i]'(by omega), List.getElem?_eq_getElem (by omega)⟩
      unfold kvN at y
      rw [List.getElem?_map, hn] at y
      cases y
      have hv := kvN_some hN.2 (List.mem_of_getElem? hn)
      have hl := e.get hbu
      refine ⟨rfl, ?_⟩
      repeat walk_at "st"
      refine k_dgetE (k := Sum.inr n.1) rfl (.inr ⟨od, hl⟩) hv ?_
      repeat walk_at "st"
      intro t H6 ht e6 h6
      exact k1 _ _ e6 rfl ⟨n, t, hn, rfl, h6⟩
    · have ha' := e.get hbu
      refine ⟨ha', ?_⟩
      have e1 := unlock_ex hN.1 e
      have nDa : D ≠ a := fun z => by rw [z, hbu] at hD; cases hD
      have hL1 : upd H' a (.dK (kvN ns)) D = some (.lst vs) := by rw [upd_ne nDa]; exact hL
      have pr1 : Paired (TNm (upd H' a (.dK (kvN ns)))) ns vs := by
        rw [filter_true] at pr
        refine paired_range (G := TNm (upd H' a (.dK (kvN ns)))) klen pr fun i y n hn ⟨n', t, h1, h2, h3⟩ => ?_
        rw [hn] at h1
        cases h1
        exact ⟨t, h2, by rw [upd_ne (ne_of h3 ha' (fun z => nomatch z))]; exact h3⟩
      have nD : H D = none := by rw [upd_ne nDa] at hD; exact hD
      generalize upd H' a (.dK (kvN ns)) = H1 at e1 hL1 pr1
      dsimp only
      repeat walk_at "st"
      intro l H2 hl e2 h2
      repeat walk_at "st"
      refine ⟨b, .dK kvs, (e1.trans e2).get hk, trivial, fun ob => ?_⟩
      repeat walk_at "st"
      refine ⟨_, rfl, b, ob, rfl, .inl ⟨kvs, upd_same, ?_⟩⟩
      have hb2 : upd H2 b (.frz ob (.dK kvs)) b = some (.frz ob (.dK kvs)) := upd_same
      have e12 : Ex H H2 := e1.trans e2
      have hbk := e12.get hk
      have nlb : l ≠ b := fun z => by rw [z, e1.get hk] at hl; cases hl
      have nDl : D ≠ l := fun z => by rw [← z, hL1] at hl; cases hl
      have nDb : D ≠ b := ne_of hL1 (e1.get hk) (fun z => nomatch z)
      have off : ∀ {x : Addr} {o : HO}, H2 x = some o → x ≠ b → upd H2 b (.frz ob (.dK kvs)) x = some o := fun {x o} h n => by rw [upd_ne n]; exact h
      refine for_it (walk_keys (kvs := kvs)) (fun i σ' H' => ∃ (v5 v6 v7 v8 v9 v10 : Option V) (ws : List V), σ' = [some (.ref a), some (.ref b), some (.bl tu), some (.ref D), some (.ref l), v5, v6, v7, v8, v9, v10] ∧ ExB l (upd H2 b (.frz ob (.dK kvs))) H' ∧ H' l = some (.lst ws) ∧ Paired (fun c v => TFull H' c v) (cs.take i) ws) ⟨none, none, none, none, none, none, [], rfl, ExB.of (Ex.refl _), off h2 nlb, .nil⟩ (fun i σ' H' _ ⟨_, _, _, _, _, _, _, _, bb, _⟩ => bb _ _ (Ne.symm nlb) hb2) (fun i x σ' H' H'' hi ⟨v5, v6, v7, v8, v9, v10, ws, es, bb, hlw, pw⟩ y => ?_) (fun σ' H' ⟨v5, v6, v7, v8, v9, v10, ws, es, bb, hlw, pw⟩ => ?_)
      · subst es
        obtain ⟨rfl, kk, vv, y, rfl⟩ := y
        obtain ⟨c, hc, hkk, _⟩ := Paired.get' hrw y
        dsimp only at hkk
        subst hkk
        have hat := hrw.val (kC c)
        rw [rowAt_mem nd (List.mem_of_getElem? hc)] at hat
        obtain ⟨vx, hv, t, rfl, ht⟩ := hat
        have hlk := bb _ _ (Ne.symm nlb) hb2
        have ht2 : H'' t = some (.tup (rowT c)) := bb _ _ (ne_of (e12.get ht) h2 (fun z => nomatch z)) (off (e12.get ht) (ne_of (e12.get ht) hbk (fun z => nomatch z)))
        have wlen : ws.length ≤ 60 := by
          have z1 := Paired.length pw
          rw [List.length_take] at z1
          omega
        unfold rowT at ht2
        repeat walk_at "st"
        refine k_dgetE (k := kC c) rfl (.inr ⟨ob, hlk⟩) hv ?_
        repeat walk_at "st"
        intro q H6 hq e6 h6
        have hL6 := e6.get hlw
        repeat walk_at "st"
        intro H7 b7 h7
        have xT := ExB.t b7 hL6
        refine ⟨_, _, _, _, _, _, _, rfl, bb.trans ((ExB.of e6).trans b7), h7, ?_⟩
        rw [List.take_add_one, hc]
        exact Paired.snoc' (TFull.exT xT ⟨q, rfl, h6⟩) (Paired.mapP pw fun a v z => TFull.exT ((Ex.t e6).trans xT) z)
      · subst es
        have hkl : kvs.length = cs.length := hrw.length
        rw [hkl, List.take_length] at pw
        have hlk := bb _ _ (Ne.symm nlb) hb2
        refine ⟨hlk, ?_⟩
        have b23 : ExB l H2 (upd H' b (.dK kvs)) := unlock_exB hbk bb
        have l3 : upd H' b (.dK kvs) l = some (.lst ws) := by rw [upd_ne nlb]; exact hlw
        have pw3 : Paired (fun c v => TFull (upd H' b (.dK kvs)) c v) cs ws := Paired.mapP pw fun c v ⟨t, h1, h2⟩ => ⟨t, h1, by rw [upd_ne (ne_of h2 hlk (fun z => nomatch z))]; exact h2⟩
        generalize upd H' b (.dK kvs) = H3 at b23 l3 pw3
        have nl : H l = none := e1.none hl
        have e03 : Ex H H3 := ExB.old e12 nl b23
        have D3 : H3 D = some (.lst vs) := b23 _ _ nDl (e2.get hL1)
        have pn3 : Paired (TNm H3) ns vs := Paired.mapP pr1 fun n v ⟨t, h1, h2'⟩ => ⟨t, h1, b23 _ _ (ne_of (e2.get h2') h2 (fun z => nomatch z)) (e2.get h2')⟩
        dsimp only
        repeat walk_at "st"
        cases tu
        · repeat walk_at "st"
          refine k_tupL (.inl (.inl l3)) fun t4 H4 ht4 e4 h4 => ?_
          repeat walk_at "st"
          refine MakeK.of fun q H5 dx hq e5 hq5 => ?_
          have e05 := (e03.trans e4).trans e5
          have nq : H q = none := (e03.trans e4).none hq
          refine ⟨q, D, t4, dx, ns, cs, rfl, hq5, ⟨vs, .inl (.inl (.inl ((e4.trans e5).get D3))), DpAll_ex (e4.trans e5) _ _ (dp_nms pn3), hNi, hN.2, hnl⟩, ⟨ws, .inr (.inl (.inl (e5.get h4))), DpAll_ex (e4.trans e5) _ _ (dp_cells pw3), hCi, nd, by omega⟩, fun H6 ns0 cs0 b6 hA mn mc => ⟨rfl, ?_⟩⟩
          have e06 : Ex H H6 := ExB.old e05 nq b6
          repeat walk_at "st"
          have D6 := b6 _ _ (ne_of ((e4.trans e5).get D3) hq5 (fun z => nomatch z)) ((e4.trans e5).get D3)
          repeat walk_at "st"
          intro t7 H7 ht7 e7 h7
          have D7 := e7.get D6
          have vlen : vs.length ≤ 20 := by
            have := Paired.length pn3
            omega
          repeat walk_at "st"
          intro H8 b8 h8
          repeat walk_at "st"
          exact k H8 q ns0 cs0 (ExB.old (e06.trans e7) nD b8) (HeapAt.exT (ExB.t b8 D7) (HeapAt.ex e7 hA)) mn mc
        · repeat walk_at "st"
          refine k_reverse D3 fun H4 b4 h4 => ?_
          have l4 := b4 _ _ (Ne.symm nDl) l3
          repeat walk_at "st"
          refine k_reverse l4 fun H5 b5 h5 => ?_
          have D5 := b5 _ _ nDl h4
          have xT : ExT H3 H5 := (ExB.t b4 D3).trans (ExB.t b5 l4)
          have pn5 : Paired (TNm H5) ns.reverse vs.reverse := Paired.mapP (paired_rev pn3) fun n v ⟨t, h1, h2⟩ => ⟨t, h1, xT _ _ (fun _ z => nomatch z) h2⟩
          have pw5 : Paired (fun c v => TFull H5 c v) cs.reverse ws.reverse := Paired.mapP (paired_rev pw3) fun c v h => TFull.exT xT h
          have e05 : Ex H H5 := ExB.old (ExB.old e03 nD b4) nl b5
          repeat walk_at "st"
          refine k_tupL (.inl (.inl D5)) fun t6 H6 ht6 e6 h6 => ?_
          repeat walk_at "st"
          refine MakeK.of fun q H7 dx hq e7 hq7 => ?_
          have nq : H q = none := (e05.trans e6).none hq
          have l7 := (e6.trans e7).get h5
          refine ⟨q, t6, l, dx, ns.reverse, cs.reverse, rfl, hq7, ⟨vs.reverse, .inr (.inl (.inl (e7.get h6))), DpAll_ex (e6.trans e7) _ _ (dp_nms pn5), fun n hn => hNi n (List.mem_reverse.mp hn), by rw [List.map_reverse]; exact (List.reverse_perm _).nodup_iff.mpr hN.2, by rw [List.length_reverse]; exact hnl⟩,
            ⟨ws.reverse, .inl (.inl (.inl l7)), DpAll_ex (e6.trans e7) _ _ (dp_cells pw5), fun c hc => hCi c (List.mem_reverse.mp hc), by rw [List.map_reverse]; exact (List.reverse_perm _).nodup_iff.mpr nd, by rw [List.length_reverse]; omega⟩, fun H8 ns0 cs0 b8 hA mn mc => ⟨rfl, ?_⟩⟩
          have e08 : Ex H H8 := ExB.old ((e05.trans e6).trans e7) nq b8
          have l8 := b8 _ _ (ne_of l7 hq7 (fun z => nomatch z)) l7
          have wlen : ws.reverse.length ≤ 60 := by
            have := Paired.length pw3
            rw [List.length_reverse]
            omega
          repeat walk_at "st"
          intro t9 H9 ht9 e9 h9
          have l9 := e9.get l8
          repeat walk_at "st"
          intro H10 b10 h10
          repeat walk_at "st"
          exact k H10 q ns0 cs0 (ExB.old (e08.trans e9) nl b10) (HeapAt.exT (ExB.t b10 l9) (HeapAt.ex e9 hA)) (fun n => (mn n).trans List.mem_reverse) (fun c => (mc c).trans List.mem_reverse)
end


/-! ### helpers -/
def nmT (n : Str × Int) : List V := [.str n.1, .int n.2]
theorem names_tup {K : PySem.W.Frag} {H : Hp} {v : V} {ns : List (Str × Int)} (h : Dp K H v (dNames ns)) : ∃ (t : Addr) (xs : List V), v = .ref t ∧ SqT K H t xs ∧ xs.length = ns.length ∧ DpAll K H xs (ns.map dName) ∧ ∀ (i : Nat) (n : Str × Int), ns[i]? = some n → ∃ q, xs[i]? = some (V.ref q) ∧ SqT K H q (nmT n) := by
  unfold dNames at h
  cases h with
  | tup hs ha =>
    rename_i xs
    have hl : xs.length = ns.length := by rw [← List.length_map (f := dName)]; exact L3.DpAll.length ha
    refine ⟨_, _, rfl, hs, hl, ha, fun i c hc => ?_⟩
    obtain ⟨hi, -⟩ := List.getElem?_eq_some_iff.mp hc
    obtain ⟨v, hv⟩ : ∃ v, xs[i]? = some v := ⟨xs[i]'(by omega), List.getElem?_eq_getElem (by omega)⟩
    obtain ⟨d, hd, hdp⟩ := L3.DpAll.get ha hv
    rw [List.getElem?_map, hc] at hd
    cases hd
    obtain ⟨t, rfl, ht⟩ := dp_name hdp
    exact ⟨t, hv, ht⟩
theorem lc_vals {α : Type} {J : It} {n : Nat} {G : Hp → Prop} {Y : Nat → Hp → V → Hp → Prop} {g : TG} {tt : TT} {te : TE} {vs : List Nat} {σ : L2.St} {Q : VK} {H1 : Hp} (w : Walk J n G Y) (cs : List α) (hn : cs.length = n) (hz : n ≤ 100000) (f : α → Bool) (v : α → V) (hG : ∀ H', Ex H1 H' → G H')
    (hs : ∀ (i : Nat) (c : α) (x : V) (H' H'' : Hp) (R1 : V → Hp → Prop) (R0 : Hp → Prop), cs[i]? = some c → Ex H1 H' → Y i H' x H'' → (∀ H4, Ex H' H4 → f c = true → R1 (v c) H4) → (∀ H3, Ex H' H3 → f c = false → R0 H3) →
      g x (wipe σ vs) H'' fun σ2 H2 => wipe σ2 vs = wipe σ vs ∧ tt σ2 H2 fun b H3 => if b = true then te σ2 H3 R1 else R0 H3)
    (hd : ∀ D H', H1 D = none → Ex H1 H' → H' D = some (.lst ((cs.filter f).map v)) → Q (.ref D) H') : LcK J g tt te vs σ Q H1 := by
  refine lc_rel w (fun i => match cs[i]? with | some c => f c | none => false) (fun i y _ => y = match cs[i]? with | some c => v c | none => V.non) hz (fun _ _ _ _ _ h => h) hG (fun i x H' H'' R1 R0 hi e y q1 q0 => ?_) (fun D H' ls hD e hL pr => ?_)
  · obtain ⟨c, hc⟩ : ∃ c, cs[i]? = some c := ⟨cs[i]'(by omega), List.getElem?_eq_getElem (by omega)⟩
    exact hs i c x H' H'' R1 R0 hc e y (fun H4 e4 hf => q1 _ _ e4 (by simp only [hc]; exact hf) (by simp only [hc])) fun H3 e3 hf => q0 _ e3 (by simp only [hc]; exact hf)
  · have := filt_range f v (fun o => match o with | some c => f c | none => false) (fun o => match o with | some c => v c | none => V.non) (fun _ => rfl) (fun _ => rfl) cs
    rw [Paired.vals pr, ← hn, this] at hL
    exact hd D H' hD e hL
theorem cr_lenK {X : Cx} {K : PySem.W.Frag} (h : X.K = K) : CallR X (.builtin "len") (L3.rLen K) := h ▸ cr_len
theorem cells_eq {K : PySem.W.Frag} {H : Hp} {p : Addr} {ns : List (Str × Int)} {cs xs : List Cell} (h : HeapAt K H p ns cs) (nx : (xs.map kC).Nodup) (e : ∀ c, c ∈ cs ↔ c ∈ xs) (a : Int) : cellOf cs a = cellOf xs a := by
  obtain ⟨_, _, _, _, _, hA⟩ := h
  exact (rowAt_ext hA.co.nd nx).mp e (Sum.inl a)
theorem rows_dict {H : Hp} {kvs : List (L2.Key × V)} {xs : List Cell} (r : RowsOf H kvs xs) (a : Int) : (cellOf xs a = none ∧ valV kvs (Sum.inl a) = none) ∨ ∃ c t, cellOf xs a = some c ∧ valV kvs (Sum.inl a) = some (V.ref t) ∧ H t = some (.tup (rowT c)) := by
  have q := r.val (Sum.inl a)
  unfold AtR at q
  cases e : cellOf xs a with
  | none =>
    unfold cellOf at e
    rw [e] at q
    exact .inl ⟨rfl, q⟩
  | some c =>
    unfold cellOf at e
    rw [e] at q
    obtain ⟨x, h1, t, rfl, h2⟩ := q
    exact .inr ⟨c, t, rfl, h1, h2⟩
theorem rows_len {H : Hp} {kvs : List (L2.Key × V)} {cs : List Cell} (r : RowsOf H kvs cs) : kvs.length = cs.length := by
  have := congrArg List.length r.keys
  rw [List.length_map, List.length_map] at this
  exact this


/-! ### what is reached from the names -/
inductive Reach (ns : List (Str × Int)) (cs : List Cell) : Int → Prop
  | base (n : Str × Int) : n ∈ ns → Reach ns cs n.2
  | step (a : Int) (c : Cell) : Reach ns cs a → cellOf cs a = some c → Reach ns cs c.l
def OkM (cs : List Cell) (met : List Int) (b : Int) : Prop := cellOf cs b = none ∨ b ∈ met
/-- met: the addresses of cells met, x: where one stands -/
structure MetAt (ns : List (Str × Int)) (cs : List Cell) (met : List Int) (x : Option Int) : Prop where
  nd : met.Nodup
  dom : ∀ a ∈ met, ∃ c, cellOf cs a = some c
  sound : ∀ a ∈ met, Reach ns cs a
  here : ∀ a, x = some a → Reach ns cs a
  closed : ∀ a ∈ met, ∀ c, cellOf cs a = some c → OkM cs met c.l ∨ x = some c.l
theorem MetAt.len {ns : List (Str × Int)} {cs : List Cell} {met : List Int} {x : Option Int} (m : MetAt ns cs met x) : met.length ≤ cs.length := by
  have := nodup_le (l1 := met) (l2 := cs.map (·.a)) m.nd fun a ha => by
    obtain ⟨c, hc⟩ := m.dom a ha
    obtain ⟨h1, h2⟩ := cell_key hc
    exact List.mem_map.mpr ⟨c, h1, h2⟩
  rwa [List.length_map] at this
theorem MetAt.start {ns : List (Str × Int)} {cs : List Cell} {met : List Int} (m : MetAt ns cs met none) {n : Str × Int} (h : n ∈ ns) : MetAt ns cs met (some n.2) :=
  ⟨m.nd, m.dom, m.sound, fun a e => by cases e; exact .base n h, fun a ha c hc => .inl ((m.closed a ha c hc).resolve_right fun z => nomatch z)⟩
theorem MetAt.stop {ns : List (Str × Int)} {cs : List Cell} {met : List Int} {x : Int} (m : MetAt ns cs met (some x)) (h : OkM cs met x) : MetAt ns cs met none :=
  ⟨m.nd, m.dom, m.sound, fun a e => (nomatch e), fun a ha c hc => (m.closed a ha c hc).elim .inl fun z => by cases z; exact .inl h⟩
theorem OkM.mono {cs : List Cell} {met : List Int} {b : Int} (x : Int) (h : OkM cs met b) : OkM cs (met ++ [x]) b := h.imp id fun z => List.mem_append_left _ z
theorem MetAt.step {ns : List (Str × Int)} {cs : List Cell} {met : List Int} {x : Int} {c : Cell} (m : MetAt ns cs met (some x)) (hc : cellOf cs x = some c) (hx : x ∉ met) : MetAt ns cs (met ++ [x]) (some c.l) := by
  refine ⟨List.nodup_append.mpr ⟨m.nd, by simp, fun a ha b hb e => ?_⟩, fun a ha => ?_, fun a ha => ?_, fun a e => ?_, fun a ha d hd => ?_⟩
  · have : b = x := by simpa using hb
    exact hx (this ▸ e ▸ ha)
  · rcases List.mem_append.mp ha with h | h
    · exact m.dom a h
    · have : a = x := by simpa using h
      rw [this]
      exact ⟨c, hc⟩
  · rcases List.mem_append.mp ha with h | h
    · exact m.sound a h
    · have : a = x := by simpa using h
      rw [this]
      exact m.here x rfl
  · cases e
    exact .step x c (m.here x rfl) hc
  · rcases List.mem_append.mp ha with h | h
    · rcases m.closed a h d hd with z | z
      · exact .inl (z.mono x)
      · cases z
        exact .inl (.inr (by simp))
    · have : a = x := by simpa using h
      subst this
      rw [hc] at hd
      cases hd
      exact .inr rfl
theorem MetAt.full {ns : List (Str × Int)} {cs : List Cell} {met : List Int} {x : Int} (m : MetAt ns cs met (some x)) (h : cs.length ≤ met.length) : OkM cs met x := by
  cases hc : cellOf cs x with
  | none => exact .inl hc
  | some c =>
    by_cases hx : x ∈ met
    · exact .inr hx
    · have := (m.step hc hx).len
      rw [List.length_append] at this
      simp only [List.length_cons, List.length_nil] at this
      omega
/-- all are met -/
def Good (ns : List (Str × Int)) (cs : List Cell) (met : List Int) : Prop := MetAt ns cs met none ∧ ∀ n ∈ ns, OkM cs met n.2
theorem Good.reach {ns : List (Str × Int)} {cs : List Cell} {met : List Int} (g : Good ns cs met) {a : Int} (h : Reach ns cs a) : OkM cs met a := by
  induction h with
  | base n hn => exact g.2 n hn
  | step a c _ hc ih =>
    rcases ih with z | z
    · rw [z] at hc; cases hc
    · exact (g.1.closed a z c hc).resolve_right fun z => nomatch z
theorem Good.iff {ns : List (Str × Int)} {cs : List Cell} {met : List Int} (g : Good ns cs met) {a : Int} {c : Cell} (h : cellOf cs a = some c) : a ∈ met ↔ Reach ns cs a :=
  ⟨g.1.sound a, fun r => (g.reach r).resolve_left fun z => by rw [z] at h; cases h⟩
theorem Reach.mono {ns ms : List (Str × Int)} {cs ds : List Cell} (hn : ∀ n, n ∈ ns → n ∈ ms) (hc : ∀ a, cellOf cs a = cellOf ds a) {a : Int} (h : Reach ns cs a) : Reach ms ds a := by
  induction h with
  | base n h => exact .base n (hn n h)
  | step a c _ e ih => exact .step a c ih ((hc a).symm.trans e)
def lostL (cs : List Cell) (met : List Int) : List Int := (cs.filter fun c => decide (c.a ∉ met)).map (·.a)
/-- both ways to the lost ones -/
theorem lost_eq {ns ms : List (Str × Int)} {cs ds : List Cell} {met mex : List Int} (hn : ∀ n, n ∈ ns ↔ n ∈ ms) (hc : ∀ a, cellOf cs a = cellOf ds a) (co : CsOk cs) (g : Good ns cs met) (k : Good ms ds mex) : lostL cs met = lostL cs mex := by
  unfold lostL
  congr 1
  refine List.filter_congr fun c hcm => decide_eq_decide.mpr (not_congr ?_)
  have e := cell_mem co hcm
  rw [g.iff e, k.iff ((hc _).symm.trans e)]
  exact ⟨Reach.mono (fun n h => (hn n).mp h) hc, Reach.mono (fun n h => (hn n).mpr h) fun a => (hc a).symm⟩
/-! the dict of the met ones -/
def kvM (met : List Int) : List (L2.Key × V) := met.map fun a => (Sum.inl a, V.bl true)
theorem kvM_none {met : List Int} {x : Int} (h : x ∉ met) : valV (kvM met) (Sum.inl x) = none := by
  induction met with
  | nil => rfl
  | cons n ns ih =>
    rw [List.mem_cons, not_or] at h
    show valV ((Sum.inl n, V.bl true) :: kvM ns) _ = none
    rw [valV_neg (fun e => h.1 (Sum.inl.inj e).symm)]
    exact ih h.2
theorem kvM_some {met : List Int} {x : Int} (h : x ∈ met) : valV (kvM met) (Sum.inl x) = some (.bl true) := by
  induction met with
  | nil => cases h
  | cons n ns ih =>
    show valV ((Sum.inl n, V.bl true) :: kvM ns) _ = _
    by_cases e : n = x
    · rw [e, valV_pos rfl]
    · rw [valV_neg (fun z => e (Sum.inl.inj z))]
      exact ih ((List.mem_cons.mp h).resolve_left fun z => e z.symm)
theorem kvM_put {met : List Int} {x : Int} (h : x ∉ met) : putK (kvM met) (Sum.inl x) (.bl true) = kvM (met ++ [x]) := by
  rw [putK_new _ (kvM_none h)]
  unfold kvM
  rw [List.map_append]
  rfl
theorem kvM_len (met : List Int) : (kvM met).length = met.length := List.length_map _


/-! ### lost_cells -/
def spLost (K : PySem.W.Frag) : Sp := fun vs H Q _ => ∃ (p : Addr) (ns : List (Str × Int)) (cs : List Cell), vs = [.ref p] ∧ HeapAt K H p ns cs ∧ ∀ H' l met, Ex H H' → H l = none → H' l = some (.lst ((lostL cs met).map V.int)) → Good ns cs met → Q (.ref l) H'
def LosI (p D : Addr) (H : Hp) (ns : List (Str × Int)) (cs : List Cell) (i : Nat) (σ : L2.St) (H' : Hp) : Prop := ∃ (met : List Int) (v2 v3 v4 : Option V), σ = [some (.ref p), some (.ref D), v2, v3, v4] ∧ Ex H H' ∧ H' D = some (.dK (kvM met)) ∧ MetAt ns cs met none ∧ ∀ n ∈ ns.take i, OkM cs met n.2
def LosW (p D : Addr) (v2 v4 : Option V) (H : Hp) (ns : List (Str × Int)) (cs : List Cell) (i : Nat) (n : Str × Int) (m : Nat) (σ : L2.St) (H' : Hp) : Prop := ∃ (met : List Int) (x : Int), σ = [some (.ref p), some (.ref D), v2, some (.int x), v4] ∧ Ex H H' ∧ H' D = some (.dK (kvM met)) ∧ MetAt ns cs met (some x) ∧
  (∀ k ∈ ns.take i, OkM cs met k.2) ∧ (OkM cs met n.2 ∨ n.2 = x) ∧ met.length + m = cs.length
section
variable {P : Program} {w : World} {K : PySem.W.Frag} {mg : Str → Option Value} {base : Heap}
theorem c_lost_cells (T : Tx w K mg) : Cal P w K mg base CX0 3 "lost_cells" ["heap"] (spLost K) := by
  refine cal_mk T.D_lost_cells T.m_lost_cells sc_lost_cells (fun _ _ _ _ _ _ us hl => match us, hl with | [_], _ => rfl) (fun vs H Q E h => ?_) (fun f cdv A outer s H vs Q E hr h => ?_)
  · obtain ⟨p, ns, cs, rfl, _⟩ := h
    rfl
  · obtain ⟨p, ns, cs, rfl, hA, k⟩ := h
    obtain ⟨dx, tn, tc, d, kvs, hA1⟩ := id hA
    obtain ⟨_, ys, et, hy, hyl, _, hyc⟩ := names_tup hA1.nms
    cases et
    obtain ⟨_, zs, et, hz, hzl, hzc⟩ := cells_tup hA1.cls
    cases et
    have hln := hA1.ln
    have hlc := hA1.lc
    have hu := hu_of hr
    refine ⟨_, ((pss_cons (ps_set (i := 1) sc_lost_cells.nd rfl (Or.inr rfl) pe_dnewK)
  (pss_cons (ps_for PassesOwn.never rfl (pi_tup (pe_fld (pv 0) rfl)) (pg_name (i := 2) sc_lost_cells.nd rfl (Or.inl rfl)) (pss_cons (ps_set (i := 3) sc_lost_cells.nd rfl (Or.inl rfl) (pe_ix (ix_tupK (K := K) rfl) (pv 2) pe_int (fun _ _ => rfl)))
  (pss_one (ps_while PassesOwn.never (PW.pt (pw_and (pt_cmp (pc_dnotin hu (pv 3) (pv 1)) rfl) (pw_and1 (pt_cmp (pc_notN (by exact pe_met (pv 0) T.cls_Heap (me_Heap_cell T) hr (by decide) pass0 (pa_cons (pv 3) pa_nil))))))) (pss_cons (ps_dput hu (pv 1) (pv 3) pe_bl rfl)
  (pss_one (ps_set (i := 3) sc_lost_cells.nd rfl (Or.inl rfl) (pe_ix (ix_tupK (K := K) rfl) (by exact pe_met (pv 0) T.cls_Heap (me_Heap_cell T) hr (by decide) pass0 (pa_cons (pv 3) pa_nil)) pe_int (fun _ _ => rfl)))))))))
  (pss_one (ps_ret (pe_lc (own := [("cell", 4)]) rfl sc_lost_cells.nd (pi_tup (pe_fld (pv 0) rfl)) (blkOk_by (N := ["heap", "reached", "pair", "at", "cell"]) (sc := defScope s_lost_cells) (by decide +kernel)) (fun _ _ _ _ _ => (pg_name (i := 4) sc_lost_cells.nd rfl (Or.inl rfl))) (fun _ _ _ _ _ => (pts_one (pt_cmp (pc_dnotin hu (pe_ix (ix_tupK (K := K) rfl) (pv 4) pe_int (fun _ _ => rfl)) (pv 1)) rfl))) (fun _ _ _ _ _ => (pe_ix (ix_tupK (K := K) rfl) (pv 4) pe_int (fun _ _ => rfl))))))))), ?_⟩
    dsimp only [cxOf, Cx.nox]
    repeat walk_at "st"
    refine k_dnew fun D H1 hD e1 h1 => ?_
    repeat walk_at "st"
    refine k_fldE (e1.get hA1.ins) T.cls_Heap T.no_Heap_names (hf_names _ _ _) ?_
    have hy1 := e1.sqT hy
    repeat walk_at "st"
    refine for_it (walk_tup (xs := ys)) (LosI p D H ns cs) ⟨[], none, none, none, rfl, e1, h1, ⟨.nil, (fun _ h => nomatch h), (fun _ h => nomatch h), (fun _ h => nomatch h), (fun _ h => nomatch h)⟩, (fun _ h => nomatch h)⟩ (fun i σ' H' _ ⟨_, _, _, _, _, e, _⟩ => e.sqT hy)
      (fun i x σ' H2 H'' hi ⟨met, v2, v3, v4, es, e2, h2, M, st⟩ y => ?_) (fun σ' H2 ⟨met, v2, v3, v4, es, e2, h2, M, st⟩ => ?_)
    · subst es
      obtain ⟨rfl, y⟩ := y
      obtain ⟨n, hn⟩ : ∃ n, ns[i]? = some n := ⟨ns[i]'(by omega), List.getElem?_eq_getElem (by omega)⟩
      obtain ⟨q, hq, hsq⟩ := hyc i n hn
      rw [hq] at y
      cases y
      have hsq2 := e2.sqT hsq
      unfold nmT at hsq2
      repeat walk_at "st"
      have ml := M.len
      refine ⟨LosW p D (some (.ref q)) v4 H ns cs i n, ⟨cs.length - met.length, met, n.2, rfl, e2, h2, M.start (List.mem_of_getElem? hn), st, .inr rfl, by omega⟩, ?_⟩
      rintro m σ H3 ⟨met, x, rfl, e3, h3, M3, st3, pg, hm⟩
      have hA3 := hA.ex e3
      obtain ⟨dx3, tn3, tc3, d3, kvs3, hA4⟩ := id hA3
      have off : OkM cs met x → LosI p D H ns cs (i + 1) [some (.ref p), some (.ref D), some (.ref q), some (.int x), v4] H3 := fun ok => by
        refine ⟨met, _, _, _, rfl, e3, h3, M3.stop ok, fun k hk => ?_⟩
        rw [List.take_add_one, hn] at hk
        rcases List.mem_append.mp hk with h | h
        · exact st3 k h
        · have : k = n := by simpa using h
          rw [this]
          exact pg.elim id fun z => z ▸ ok
      repeat walk_at "st"
      refine k_dinE (k := Sum.inl x) rfl (.inl h3) ?_
      by_cases hx : x ∈ met
      · rw [kvM_some hx]
        repeat walk_at "st"
        exact off (.inr hx)
      · rw [kvM_none hx]
        repeat walk_at "st"
        refine ⟨p, dx3, _, rfl, hA4.ins, hf_cell _ _ _, ?_⟩
        repeat walk_at "st"
        refine ⟨p, x, ns, cs, rfl, hA3, fun v hv => ?_⟩
        repeat walk_at "st"
        cases hc : cellOf cs x with
        | none =>
          rw [hc] at hv
          cases hv
          rw [decide_eq_true (rfl : V.non = V.non)]
          repeat walk_at "st"
          exact off (.inl hc)
        | some c =>
          rw [hc] at hv
          obtain ⟨t, rfl, ht⟩ := hv
          rw [decide_eq_false (show ¬ V.ref t = V.non from fun z => nomatch z)]
          repeat walk_at "st"
          refine ⟨fun σ' H' => ∃ m', m' < m ∧ LosW p D (some (.ref q)) v4 H ns cs i n m' σ' H', fun _ _ h => h, ?_⟩
          repeat walk_at "st"
          have ml3 := M3.len
          refine k_dputE (k := Sum.inl x) rfl h3 (by rw [kvM_len, sizeLine_eq]; omega) fun H4 b4 h4 => ?_
          rw [kvM_put hx] at h4
          have e4 : Ex H H4 := ExB.old e3 hD b4
          have hA5 := hA.ex e4
          obtain ⟨dx5, tn5, tc5, d5, kvs5, hA6⟩ := id hA5
          have ml4 := (M3.step hc hx).len
          rw [List.length_append] at ml4
          simp only [List.length_cons, List.length_nil] at ml4
          repeat walk_at "st"
          refine ⟨p, dx5, _, rfl, hA6.ins, hf_cell _ _ _, ?_⟩
          repeat walk_at "st"
          refine ⟨p, x, ns, cs, rfl, hA5, fun v hv => ?_⟩
          rw [hc] at hv
          obtain ⟨t', rfl, ht'⟩ := hv
          unfold rowT at ht'
          repeat walk_at "st"
          refine ⟨m - 1, by omega, met ++ [x], c.l, rfl, e4, h4, M3.step hc hx, fun k hk => (st3 k hk).mono x, .inl (pg.elim (fun z => z.mono x) fun z => .inr (by rw [z]; simp)), by rw [List.length_append]; simp only [List.length_cons, List.length_nil]; omega⟩
    · subst es
      rw [hyl, List.take_length] at st
      repeat walk_at "st"
      refine k_fldE (e2.get hA1.ins) T.cls_Heap T.no_Heap_cells (hf_cells _ _ _) ?_
      have hz2 := e2.sqT hz
      repeat walk_at "st"
      refine lc_vals (walk_tup (xs := zs)) cs hzl.symm (by omega) (fun c => decide (c.a ∉ met)) (fun c => V.int c.a) (fun H' e => e.sqT hz2) (fun i c x H' H'' R1 R0 hc e y q1 q0 => ?_) (fun L H3 hL e3 h3 => ?_)
      · obtain ⟨rfl, y⟩ := y
        obtain ⟨q, hq, hsq⟩ := hzc i c hc
        rw [hq] at y
        cases y
        have hsq' := (e2.trans e).sqT hsq
        unfold fullT at hsq'
        have hD' := e.get h2
        refine ⟨rfl, ?_⟩
        repeat walk_at "st"
        refine k_dinE (k := Sum.inl c.a) rfl (.inl hD') ?_
        by_cases hx : c.a ∈ met
        · rw [kvM_some hx]
          repeat walk_at "st"
          exact q0 _ (Ex.refl _) (decide_eq_false fun z => z hx)
        · rw [kvM_none hx]
          repeat walk_at "st"
          exact q1 _ (Ex.refl _) (decide_eq_true hx)
      · repeat walk_at "st"
        refine k _ L met (e2.trans e3) (e2.none hL) ?_ ⟨M, st⟩
        rw [h3]
        unfold lostL
        rw [List.map_map]
        rfl
end


/-! ### _law_lost -/
def spLLost : Sp := fun vs H Q _ => ∃ (a b : Addr) (ns : List (Str × Int)) (xs : List Cell), vs = [.ref a, .ref b] ∧ DictN H a ns ∧ ns.length ≤ 20 ∧ DictC H b xs ∧ xs.length ≤ 60 ∧ a ≠ b ∧
  ∀ H' l met cs, Ex H H' → H l = none → H' l = some (.lst ((lostL cs met).map V.int)) → CsOk cs → (∀ c, c ∈ cs ↔ c ∈ xs) → Good ns xs met → Q (.ref l) H'
def LloI (a b D : Addr) (Ha : Hp) (ns : List (Str × Int)) (xs : List Cell) (i : Nat) (σ : L2.St) (H' : Hp) : Prop := ∃ (met : List Int) (v3 v4 v5 : Option V), σ = [some (.ref a), some (.ref b), some (.ref D), v3, v4, v5] ∧ ExB D Ha H' ∧ H' D = some (.dK (kvM met)) ∧ MetAt ns xs met none ∧ ∀ n ∈ ns.take i, OkM xs met n.2
def LloJ (a b D : Addr) (v3 : Option V) (Ha : Hp) (ns : List (Str × Int)) (xs : List Cell) (i : Nat) (n : Str × Int) (j : Nat) (σ : L2.St) (H' : Hp) : Prop := ∃ (met : List Int) (x : Int) (v5 : Option V), σ = [some (.ref a), some (.ref b), some (.ref D), v3, some (.int x), v5] ∧ ExB D Ha H' ∧ H' D = some (.dK (kvM met)) ∧ MetAt ns xs met (some x) ∧
  (∀ k ∈ ns.take i, OkM xs met k.2) ∧ (OkM xs met n.2 ∨ n.2 = x) ∧ (OkM xs met x ∨ j ≤ met.length)
section
variable {P : Program} {w : World} {K : PySem.W.Frag} {mg : Str → Option Value} {base : Heap}
theorem c_l_lost (T : Tx w K mg) : Cal P w K mg base CX0 2 "_law_lost" ["names", "cells"] spLLost := by
  refine cal_mk T.D_l_lost T.m__law_lost sc_l_lost (fun _ _ _ _ _ _ us hl => match us, hl with | [_, _], _ => rfl) (fun vs H Q E h => ?_) (fun f cdv A outer s H vs Q E hr h => ?_)
  · obtain ⟨a, b, ns, xs, rfl, _⟩ := h
    rfl
  · obtain ⟨a, b, ns, xs, rfl, hN, hnl, hC, hxl, hab, k⟩ := h
    obtain ⟨kvs, hk, hrw, nd⟩ := hC
    have hu := hu_of hr
    have hkl := rows_len hrw
    refine ⟨_, ((pss_cons (ps_set (i := 2) sc_l_lost.nd rfl (Or.inr rfl) pe_dnewK)
  (pss_cons (ps_lock (ps_for PassesOwn.never rfl (pi_keys (pv 0)) (pg_name (i := 3) sc_l_lost.nd rfl (Or.inl rfl)) (pss_cons (ps_set (i := 4) sc_l_lost.nd rfl (Or.inl rfl) (pe_dget hu (pv 0) (pv 3) (fun _ _ => rfl)))
  (pss_one (ps_for PassesOwn.never rfl (pi_range1 rfl T.f_range (pa_cons (pe_callB cr_lenD rfl T.f_len (by decide +kernel) (pa_cons (pv 1) pa_nil)) pa_nil)) (pg_name (i := 5) sc_l_lost.nd rfl (Or.inl rfl)) (pss_one (ps_if (PW.pt (pw_and (pt_cmp (pc_din hu (pv 4) (pv 1)) rfl) (pw_and1 (pt_cmp (pc_dnotin hu (pv 4) (pv 2)) rfl)))) (pss_cons (ps_dput hu (pv 2) (pv 4) pe_bl rfl)
  (pss_one (ps_set (i := 4) sc_l_lost.nd rfl (Or.inl rfl) (pe_ix (ix_tupK (K := K) rfl) (pe_dget hu (pv 1) (pv 4) (fun _ _ => rfl)) pe_int (fun _ _ => rfl))))) pss_nil)))))))
  (pss_one (ps_ret (pe_lc (own := [("place", 4)]) rfl sc_l_lost.nd (pi_list (pe_callB (call_sortedDI rfl) rfl T.f_sorted (by decide +kernel) (pa_cons (pv 1) pa_nil))) (blkOk_by (N := ["names", "cells", "met", "name", "place", "turn"]) (sc := defScope s_l_lost) (by decide +kernel)) (fun _ _ _ _ _ => (pg_name (i := 4) sc_l_lost.nd rfl (Or.inl rfl))) (fun _ _ _ _ _ => (pts_one (pt_cmp (pc_dnotin hu (pv 4) (pv 2)) rfl))) (fun _ _ _ _ _ => (pv 4)))))))), ?_⟩
    dsimp only [cxOf, Cx.nox]
    repeat walk_at "st"
    refine k_dnew fun D H1 hD e1 h1 => ?_
    repeat walk_at "st"
    have nDa : D ≠ a := fun z => by rw [z, hN.1] at hD; cases hD
    have nDb : D ≠ b := fun z => by rw [z, hk] at hD; cases hD
    refine ⟨a, .dK (kvN ns), e1.get hN.1, trivial, fun od => ?_⟩
    repeat walk_at "st"
    refine ⟨_, rfl, a, od, rfl, .inl ⟨kvN ns, upd_same, ?_⟩⟩
    have hbu : upd H1 a (.frz od (.dK (kvN ns))) a = some (.frz od (.dK (kvN ns))) := upd_same
    have off : ∀ {x : Addr} {o : HO}, H1 x = some o → x ≠ a → upd H1 a (.frz od (.dK (kvN ns))) x = some o := fun {x o} h n => by rw [upd_ne n]; exact h
    have hDa := off h1 nDa
    have hba := off (e1.get hk) (Ne.symm hab)
    have klen : (kvN ns).length = ns.length := List.length_map _
    have rowA : ∀ {t : Addr} {c : Cell}, H t = some (.tup (rowT c)) → upd H1 a (.frz od (.dK (kvN ns))) t = some (.tup (rowT c)) ∧ t ≠ D := fun {t c} h => ⟨off (e1.get h) (ne_of h hN.1 (fun z => nomatch z)), fun z => by rw [z, hD] at h; cases h⟩
    have ul : ∀ H', ExB D (upd H1 a (.frz od (.dK (kvN ns)))) H' → ExB D H1 (upd H' a (.dK (kvN ns))) := fun H' q => unlock_exB (e1.get hN.1) q
    generalize upd H1 a (.frz od (.dK (kvN ns))) = Ha at hbu hDa hba rowA ul ⊢
    refine for_it (walk_keys (kvs := kvN ns)) (LloI a b D Ha ns xs) ⟨[], none, none, none, rfl, ExB.of (Ex.refl _), hDa, ⟨.nil, (fun _ h => nomatch h), (fun _ h => nomatch h), (fun _ h => nomatch h), (fun _ h => nomatch h)⟩, (fun _ h => nomatch h)⟩ (fun i σ' H' _ ⟨_, _, _, _, _, bb, _⟩ => bb _ _ (Ne.symm nDa) hbu)
      (fun i x σ' H2 H'' hi ⟨met, v3, v4, v5, es, b2, h2, M, st⟩ y => ?_) (fun σ' H2 ⟨met, v3, v4, v5, es, b2, h2, M, st⟩ => ?_)
    · subst es
      obtain ⟨rfl, kk, vv, y, rfl⟩ := y
      obtain ⟨n, hn⟩ : ∃ n, ns[i]? = some n := ⟨ns[i]'(by omega), List.getElem?_eq_getElem (by omega)⟩
      unfold kvN at y
      rw [List.getElem?_map, hn] at y
      cases y
      have hv := kvN_some hN.2 (List.mem_of_getElem? hn)
      have hl := b2 _ _ (Ne.symm nDa) hbu
      have hb2 := b2 _ _ (Ne.symm nDb) hba
      repeat walk_at "st"
      refine k_dgetE (k := Sum.inr n.1) rfl (.inr ⟨od, hl⟩) hv ?_
      repeat walk_at "st"
      refine for_range (lo := 0) (LloJ a b D (some (.str n.1)) Ha ns xs i n) ⟨met, n.2, v5, rfl, b2, h2, M.start (List.mem_of_getElem? hn), st, .inr rfl, .inr (Nat.zero_le _)⟩ (fun j σ' H3 hj ⟨met, x, v5, es, b3, h3, M3, st3, pg, hm⟩ => ?_) (fun σ' H3 ⟨met, x, v5, es, b3, h3, M3, st3, pg, hm⟩ => ?_)
      · subst es
        have hb3 := b3 _ _ (Ne.symm nDb) hba
        have off3 : ∀ v5, OkM xs met x → LloJ a b D (some (.str n.1)) Ha ns xs i n (j + 1) [some (.ref a), some (.ref b), some (.ref D), some (.str n.1), some (.int x), v5] H3 := fun v5 ok => ⟨met, x, _, rfl, b3, h3, M3, st3, pg, .inl ok⟩
        repeat walk_at "st"
        refine k_dinE (k := Sum.inl x) rfl (.inl hb3) ?_
        rcases rows_dict hrw x with ⟨hc, hv⟩ | ⟨c, t, hc, hv, ht⟩
        · rw [hv]
          repeat walk_at "st"
          exact off3 _ (.inl hc)
        · rw [hv]
          repeat walk_at "st"
          refine k_dinE (k := Sum.inl x) rfl (.inl h3) ?_
          by_cases hx : x ∈ met
          · rw [kvM_some hx]
            repeat walk_at "st"
            exact off3 _ (.inr hx)
          · rw [kvM_none hx]
            repeat walk_at "st"
            have ml3 := M3.len
            refine k_dputE (k := Sum.inl x) rfl h3 (by rw [kvM_len, sizeLine_eq]; omega) fun H4 b4 h4 => ?_
            rw [kvM_put hx] at h4
            have bb4 := b3.trans b4
            have hb4 := bb4 _ _ (Ne.symm nDb) hba
            obtain ⟨rt1, rt2⟩ := rowA ht
            have ht4 := bb4 _ _ rt2 rt1
            unfold rowT at ht4
            repeat walk_at "st"
            refine k_dgetE (k := Sum.inl x) rfl (.inl hb4) hv ?_
            repeat walk_at "st"
            refine ⟨met ++ [x], c.l, _, rfl, bb4, h4, M3.step hc hx, fun k hk => (st3 k hk).mono x, .inl (pg.elim (fun z => z.mono x) fun z => .inr (by rw [z]; simp)), ?_⟩
            rcases hm with z | z
            · exact absurd (z.resolve_left fun q => by rw [q] at hc; cases hc) hx
            · refine .inr ?_
              rw [List.length_append]
              simp only [List.length_cons, List.length_nil]
              omega
      · subst es
        have ok : OkM xs met x := hm.elim id fun z => M3.full (by omega)
        refine ⟨met, _, _, _, rfl, b3, h3, M3.stop ok, fun k hk => ?_⟩
        rw [List.take_add_one, hn] at hk
        rcases List.mem_append.mp hk with h | h
        · exact st3 k h
        · have : k = n := by simpa using h
          rw [this]
          exact pg.elim id fun z => z ▸ ok
    · subst es
      rw [klen, List.take_length] at st
      have hl := b2 _ _ (Ne.symm nDa) hbu
      refine ⟨hl, ?_⟩
      have b3 := ul _ b2
      have h3 : upd H2 a (.dK (kvN ns)) D = some (.dK (kvM met)) := by rw [upd_ne nDa]; exact h2
      generalize upd H2 a (.dK (kvN ns)) = H3 at b3 h3
      have e03 : Ex H H3 := ExB.old e1 hD b3
      have hkeys : kvs.map (·.1) = (xs.map (·.a)).map Sum.inl := by
        rw [hrw.keys, List.map_map]
        rfl
      dsimp only
      repeat walk_at "st"
      refine ⟨b, kvs, xs.map (·.a), rfl, .inl (e03.get hk), hkeys, by rw [List.length_map]; omega, fun ys pl pm so hpl => ?_⟩
      obtain ⟨ds, eds, cds, mds, lds⟩ := sortC_ex nd pm so
      have e4 : Ex H3 (upd H3 pl (.lst (ys.map V.int))) := Ex.new hpl
      have h4 : upd H3 pl (.lst (ys.map V.int)) pl = some (.lst (ys.map V.int)) := upd_same
      generalize upd H3 pl (.lst (ys.map V.int)) = H4 at e4 h4
      refine ⟨pl, rfl, ⟨_, .inl (.inl h4)⟩, ?_⟩
      refine lc_vals (walk_list (xs := ys.map V.int)) ds (by rw [List.length_map, ← eds, List.length_map]) (by rw [List.length_map, ← eds, List.length_map]; omega) (fun c => decide (c.a ∉ met)) (fun c => V.int c.a) (fun H' e => .inl (.inl (e.get h4))) (fun i c x H' H'' R1 R0 hc e y q1 q0 => ?_) (fun L H5 hL e5 h5 => ?_)
      · obtain ⟨rfl, y⟩ := y
        rw [List.getElem?_map, ← eds, List.getElem?_map, hc] at y
        cases y
        have hD' := e.get (e4.get h3)
        refine ⟨rfl, ?_⟩
        repeat walk_at "st"
        refine k_dinE (k := Sum.inl c.a) rfl (.inl hD') ?_
        by_cases hx : c.a ∈ met
        · rw [kvM_some hx]
          repeat walk_at "st"
          exact q0 _ (Ex.refl _) (decide_eq_false fun z => z hx)
        · rw [kvM_none hx]
          repeat walk_at "st"
          exact q1 _ (Ex.refl _) (decide_eq_true hx)
      · have e05 := e03.trans (e4.trans e5)
        repeat walk_at "st"
        refine k _ L met ds e05 ((e03.trans e4).none hL) ?_ cds mds ⟨M, st⟩
        rw [h5]
        unfold lostL
        rw [List.map_map]
        rfl
end


/-! ### plain cells, segments: no program in sight -/
def inc (cs : List Cell) (a : Int) : List Cell := cs.filter fun d => decide (d.l = a)
def plainB (ns : List (Str × Int)) (cs : List Cell) (a : Int) : Bool := match cellOf cs a with
  | none => false
  | some c => decide (∀ n ∈ ns, n.2 ≠ a) && decide ((inc cs a).map (·.s) = [c.s])
theorem plain_cell {ns : List (Str × Int)} {cs : List Cell} {a : Int} (h : plainB ns cs a = true) : ∃ c, cellOf cs a = some c ∧ (∀ n ∈ ns, n.2 ≠ a) ∧ (inc cs a).map (·.s) = [c.s] := by
  unfold plainB at h
  split at h
  · cases h
  · rename_i c hc
    rw [Bool.and_eq_true, decide_eq_true_eq, decide_eq_true_eq] at h
    exact ⟨c, hc, h.1, h.2⟩
theorem plain_inc {ns : List (Str × Int)} {cs : List Cell} {a : Int} (h : plainB ns cs a = true) : ∃ c d, cellOf cs a = some c ∧ inc cs a = [d] ∧ d.s = c.s := by
  obtain ⟨c, hc, _, hs⟩ := plain_cell h
  match hi : inc cs a with
  | [] => rw [hi] at hs; cases hs
  | [d] =>
    rw [hi] at hs
    exact ⟨c, d, hc, rfl, (List.cons.inj hs).1⟩
  | d :: e :: r => rw [hi] at hs; cases (List.cons.inj hs).2
theorem mem_inc {cs : List Cell} {a : Int} {d : Cell} : d ∈ inc cs a ↔ d ∈ cs ∧ d.l = a := by
  unfold inc
  rw [List.mem_filter, decide_eq_true_eq]
theorem plain_uni {ns : List (Str × Int)} {cs : List Cell} {a : Int} (h : plainB ns cs a = true) {d e : Cell} (hd : d ∈ cs) (he : e ∈ cs) (d1 : d.l = a) (e1 : e.l = a) : d = e := by
  obtain ⟨c, x, _, hi, _⟩ := plain_inc h
  have h1 := mem_inc.mpr ⟨hd, d1⟩
  have h2 := mem_inc.mpr ⟨he, e1⟩
  rw [hi, List.mem_singleton] at h1 h2
  rw [h1, h2]
theorem plain_share {ns : List (Str × Int)} {cs : List Cell} {a : Int} (h : plainB ns cs a = true) {c d : Cell} (hc : cellOf cs a = some c) (hd : d ∈ cs) (d1 : d.l = a) : d.s = c.s := by
  obtain ⟨c', x, hc', hi, hs⟩ := plain_inc h
  have h1 := mem_inc.mpr ⟨hd, d1⟩
  rw [hi, List.mem_singleton] at h1
  rw [hc] at hc'
  cases hc'
  rw [h1, hs]
theorem plain_of {ns : List (Str × Int)} {cs : List Cell} {a : Int} {c d : Cell} (hc : cellOf cs a = some c) (hn : ∀ n ∈ ns, n.2 ≠ a) (hi : inc cs a = [d]) (hs : d.s = c.s) : plainB ns cs a = true := by
  unfold plainB
  rw [hc]
  dsimp only
  rw [Bool.and_eq_true, decide_eq_true_eq, decide_eq_true_eq, hi]
  exact ⟨hn, by rw [List.map_cons, hs]; rfl⟩
def seg (pl : Int → Bool) (f : Int → Option Cell) : Nat → Cell → List Cell
  | 0, c => [c]
  | k + 1, c => if pl c.l = true then (match f c.l with | some d => c :: seg pl f k d | none => [c]) else [c]
def segZ (pl : Int → Bool) (f : Int → Option Cell) : Nat → Cell → Cell
  | 0, c => c
  | k + 1, c => if pl c.l = true then (match f c.l with | some d => segZ pl f k d | none => c) else c
theorem seg_step {pl : Int → Bool} {f : Int → Option Cell} {c d : Cell} (h : pl c.l = true) (hd : f c.l = some d) (k : Nat) : seg pl f (k + 1) c = c :: seg pl f k d ∧ segZ pl f (k + 1) c = segZ pl f k d := by
  simp [seg, segZ, h, hd]
theorem seg_stop {pl : Int → Bool} {f : Int → Option Cell} {c : Cell} (h : pl c.l = false) (k : Nat) : seg pl f k c = [c] ∧ segZ pl f k c = c := by
  cases k <;> simp [seg, segZ, h]
/-- the cells of a segment that were met, the last one first -/
inductive Sg (ns : List (Str × Int)) (cs : List Cell) (c0 : Cell) : List Cell → Prop
  | one : Sg ns cs c0 [c0]
  | more (c d : Cell) (r : List Cell) : Sg ns cs c0 (c :: r) → plainB ns cs c.l = true → cellOf cs c.l = some d → Sg ns cs c0 (d :: c :: r)
section
variable {ns : List (Str × Int)} {cs : List Cell} {c0 : Cell}
theorem Sg.mem (h0 : c0 ∈ cs) {l : List Cell} (s : Sg ns cs c0 l) : ∀ e ∈ l, e ∈ cs := by
  induction s with
  | one => intro e he; rw [List.mem_singleton.mp he]; exact h0
  | more c d r _ _ hd ih =>
    intro e he
    rcases List.mem_cons.mp he with rfl | he
    · exact (cell_key hd).1
    · exact ih e he
theorem Sg.pred {l : List Cell} (s : Sg ns cs c0 l) : ∀ e ∈ l, e = c0 ∨ ∃ p ∈ l.tail, p.l = e.a ∧ plainB ns cs e.a = true := by
  induction s with
  | one => intro e he; exact .inl (List.mem_singleton.mp he)
  | more c d r _ hp hd ih =>
    intro e he
    have da := (cell_key hd).2
    rcases List.mem_cons.mp he with rfl | he
    · exact .inr ⟨c, List.mem_cons_self, da.symm, by rw [da]; exact hp⟩
    · rcases ih e he with z | ⟨p, hp1, hp2⟩
      · exact .inl z
      · exact .inr ⟨p, List.mem_cons_of_mem _ hp1, hp2⟩
theorem Sg.nodup (h0 : c0 ∈ cs) (hq : plainB ns cs c0.a = false) {l : List Cell} (s : Sg ns cs c0 l) : (l.map (·.a)).Nodup := by
  induction s with
  | one => simp
  | more c d r s hp hd ih =>
    rw [List.map_cons]
    refine List.nodup_cons.mpr ⟨fun hm => ?_, ih⟩
    obtain ⟨e, he, ea⟩ := List.mem_map.mp hm
    have da := (cell_key hd).2
    rcases s.pred e he with rfl | ⟨p, hp1, hp2, hp3⟩
    · rw [ea, da, hp] at hq
      cases hq
    · have hpc := s.mem h0 p (List.mem_of_mem_tail hp1)
      have hcc := s.mem h0 c List.mem_cons_self
      have : p = c := plain_uni hp hpc hcc (by rw [hp2, ea, da]) rfl
      rw [this] at hp1
      rw [List.map_cons] at ih
      exact (List.nodup_cons.mp ih).1 (List.mem_map_of_mem hp1)
theorem Sg.len (h0 : c0 ∈ cs) (hq : plainB ns cs c0.a = false) {l : List Cell} (s : Sg ns cs c0 l) : l.length ≤ cs.length := by
  have := nodup_le (l1 := l.map (·.a)) (l2 := cs.map (·.a)) (s.nodup h0 hq) fun x hx => by
    obtain ⟨e, he, rfl⟩ := List.mem_map.mp hx
    exact List.mem_map_of_mem (s.mem h0 e he)
  rwa [List.length_map, List.length_map] at this
theorem Sg.share (h0 : c0 ∈ cs) {l : List Cell} (s : Sg ns cs c0 l) : ∀ e ∈ l, e.s = c0.s := by
  induction s with
  | one => intro e he; rw [List.mem_singleton.mp he]
  | more c d r s hp hd ih =>
    intro e he
    rcases List.mem_cons.mp he with rfl | he
    · rw [← plain_share hp hd (s.mem h0 c List.mem_cons_self) rfl]
      exact ih c List.mem_cons_self
    · exact ih e he
theorem seg_all (h0 : c0 ∈ cs) (hq : plainB ns cs c0.a = false) : ∀ (k : Nat) (c : Cell) (r : List Cell), Sg ns cs c0 (c :: r) → cs.length ≤ r.length + k → Sg ns cs c0 ((seg (plainB ns cs) (cellOf cs) k c).reverse ++ r) ∧ plainB ns cs (segZ (plainB ns cs) (cellOf cs) k c).l = false ∧ ∃ r', (seg (plainB ns cs) (cellOf cs) k c).reverse ++ r = segZ (plainB ns cs) (cellOf cs) k c :: r'
  | 0, c, r, s, h => by
    have := s.len h0 hq
    rw [List.length_cons] at this
    omega
  | k + 1, c, r, s, h => by
    cases hp : plainB ns cs c.l with
    | true =>
      obtain ⟨d, hd, _⟩ := plain_cell hp
      obtain ⟨e1, e2⟩ := seg_step (pl := plainB ns cs) (f := cellOf cs) hp hd k
      rw [e1, e2, List.reverse_cons, List.append_assoc]
      exact seg_all h0 hq k d (c :: r) (.more c d r s hp hd) (by rw [List.length_cons]; omega)
    | false =>
      obtain ⟨e1, e2⟩ := seg_stop (pl := plainB ns cs) (f := cellOf cs) hp (k + 1)
      rw [e1, e2]
      exact ⟨s, hp, r, rfl⟩
end
abbrev segL (ns : List (Str × Int)) (cs : List Cell) (c : Cell) : List Cell := seg (plainB ns cs) (cellOf cs) cs.length c
abbrev lastC (ns : List (Str × Int)) (cs : List Cell) (c : Cell) : Cell := segZ (plainB ns cs) (cellOf cs) cs.length c
/-- where a segment leads -/
abbrev goalC (ns : List (Str × Int)) (cs : List Cell) (c : Cell) : Int := (lastC ns cs c).l
theorem goal_ok {ns : List (Str × Int)} {cs : List Cell} {c : Cell} (h0 : c ∈ cs) (hq : plainB ns cs c.a = false) : plainB ns cs (goalC ns cs c) = false ∧ lastC ns cs c ∈ cs ∧ (lastC ns cs c).s = c.s ∧ Sg ns cs c (segL ns cs c).reverse ∧ ∃ r, (segL ns cs c).reverse = lastC ns cs c :: r := by
  obtain ⟨s, hp, r, hr⟩ := seg_all h0 hq cs.length c [] .one (Nat.le_add_left _ _)
  rw [List.append_nil] at s hr
  have hm : lastC ns cs c ∈ (segL ns cs c).reverse := by rw [hr]; exact List.mem_cons_self
  exact ⟨hp, s.mem h0 _ hm, s.share h0 _ hm, s, r, hr⟩


/-! ### spots in order: no program in sight -/
abbrev Spot (ns : List (Str × Int)) (cs : List Cell) (a : Int) : Prop := a = 0 ∨ (∃ n ∈ ns, n.2 = a) ∨ ∃ d ∈ cs, d.l = a ∧ (cellOf cs a = none ∨ (∃ e ∈ cs, e ≠ d ∧ e.l = a) ∨ ∃ c, cellOf cs a = some c ∧ d.s ≠ c.s)
theorem filter_eq_one {α : Type} [DecidableEq α] {l : List α} {p : α → Bool} {d : α} (nd : l.Nodup) (hd : d ∈ l) (pd : p d = true) (h : ∀ e ∈ l, p e = true → e = d) : l.filter p = [d] := by
  have h1 : (l.filter p).Nodup := nd.sublist List.filter_sublist
  have h2 : d ∈ l.filter p := List.mem_filter.mpr ⟨hd, pd⟩
  match hl : l.filter p with
  | [] => rw [hl] at h2; cases h2
  | [x] => rw [hl, List.mem_singleton] at h2; rw [h2]
  | x :: y :: r =>
    rw [hl] at h1
    have ex := h x (List.mem_filter.mp (by rw [hl]; simp)).1 (List.mem_filter.mp (by rw [hl]; simp : x ∈ l.filter p)).2
    have ey := h y (List.mem_filter.mp (by rw [hl]; simp)).1 (List.mem_filter.mp (by rw [hl]; simp : y ∈ l.filter p)).2
    have := (List.nodup_cons.mp h1).1
    rw [ex, ey] at this
    exact absurd List.mem_cons_self this
theorem CsOk.nodup {cs : List Cell} (co : CsOk cs) : cs.Nodup := List.Pairwise.of_map kC (fun a b h e => h (by rw [e])) co.nd
section
variable {ns : List (Str × Int)} {cs : List Cell}
/-- where a link leads, a spot is what is not plain -/
theorem spot_link (co : CsOk cs) (h0 : ∀ c ∈ cs, c.a ≠ 0) {d : Cell} (hd : d ∈ cs) : Spot ns cs d.l ↔ plainB ns cs d.l = false := by
  constructor
  · intro h
    cases hp : plainB ns cs d.l with
    | false => rfl
    | true =>
      obtain ⟨c, hc, hn, _⟩ := plain_cell hp
      rcases h with h | ⟨n, hn1, hn2⟩ | ⟨e, he, e1, h | ⟨x, hx, xe, xl⟩ | ⟨c', hc', hs⟩⟩
      · obtain ⟨q1, q2⟩ := cell_key hc
        exact absurd (q2.trans h) (h0 c q1)
      · exact absurd hn2 (hn n hn1)
      · rw [hc] at h; cases h
      · exact absurd (plain_uni hp hx he xl e1) xe
      · rw [hc] at hc'
        cases hc'
        exact absurd (plain_share hp hc he e1) hs
  · intro h
    cases hc : cellOf cs d.l with
    | none => exact .inr (.inr ⟨d, hd, rfl, .inl hc⟩)
    | some c =>
      by_cases h1 : ∃ e ∈ cs, e ≠ d ∧ e.l = d.l
      · exact .inr (.inr ⟨d, hd, rfl, .inr (.inl h1)⟩)
      · by_cases h2 : d.s = c.s
        · by_cases h3 : ∃ n ∈ ns, n.2 = d.l
          · exact .inr (.inl h3)
          · have hi : inc cs d.l = [d] := filter_eq_one co.nodup hd (decide_eq_true rfl) fun e he pe => by
              by_cases ee : e = d
              · exact ee
              · exact absurd ⟨e, he, ee, of_decide_eq_true pe⟩ h1
            rw [plain_of hc (fun n hn e => h3 ⟨n, hn, e⟩) hi h2] at h
            cases h
        · exact .inr (.inr ⟨d, hd, rfl, .inr (.inr ⟨c, hc, h2⟩)⟩)
theorem spot_plain (co : CsOk cs) (h0 : ∀ c ∈ cs, c.a ≠ 0) {a : Int} (h : Spot ns cs a) : plainB ns cs a = false := by
  cases hp : plainB ns cs a with
  | false => rfl
  | true =>
    obtain ⟨c, hc, hn, hs⟩ := plain_cell hp
    obtain ⟨c', d, hc', hi, _⟩ := plain_inc hp
    have hd := mem_inc.mp (by rw [hi]; exact List.mem_singleton.mpr rfl : d ∈ inc cs a)
    have := (spot_link (ns := ns) co h0 hd.1).mp (by rw [hd.2]; exact h)
    rw [hd.2, hp] at this
    cases this
end
/-- put behind, if new -/
def addO (os : List Int) (a : Int) : List Int := if a ∈ os then os else os ++ [a]
theorem addO_mem {os : List Int} {a b : Int} : b ∈ addO os a ↔ b ∈ os ∨ b = a := by
  unfold addO
  split
  · rename_i h
    exact ⟨.inl, fun h2 => h2.elim id fun e => e ▸ h⟩
  · rw [List.mem_append, List.mem_singleton]
theorem addO_nodup {os : List Int} {a : Int} (h : os.Nodup) : (addO os a).Nodup := by
  unfold addO
  split
  · exact h
  · rename_i hn
    exact List.nodup_append.mpr ⟨h, by simp, fun x hx y hy e => hn (by rw [List.mem_singleton.mp hy] at e; exact e ▸ hx)⟩
theorem addO_pre (os : List Int) (a : Int) : os <+: addO os a := by
  unfold addO
  split
  · exact List.prefix_refl _
  · exact List.prefix_append _ _
theorem addO_len {os : List Int} {a : Int} : (addO os a).length ≤ os.length + 1 := by
  unfold addO
  split
  · omega
  · rw [List.length_append]; simp
def foldO : List Int → List Int → List Int
  | os, [] => os
  | os, v :: vs => foldO (addO os v) vs
structure Bf where
  os : List Int
  outs : List (Option (Int × Int))
  words : List Str
def marksOf (l : List Cell) : Str := Txt.join "" (l.map (·.m))
def stepB (ns : List (Str × Int)) (cs : List Cell) (b : Bf) : Bf := match b.os[b.outs.length + 1]? with
  | none => b
  | some q => match cellOf cs q with
    | none => ⟨b.os, b.outs ++ [none], b.words⟩
    | some c => ⟨addO b.os (goalC ns cs c), b.outs ++ [some ((((addO b.os (goalC ns cs c)).idxOf (goalC ns cs c) : Nat) : Int), c.s)], b.words ++ [marksOf (segL ns cs c)]⟩
def runB (ns : List (Str × Int)) (cs : List Cell) : Nat → Bf → Bf
  | 0, b => b
  | k + 1, b => stepB ns cs (runB ns cs k b)
def startB (ns : List (Str × Int)) : Bf := ⟨foldO [0] (ns.map (·.2)), [], []⟩
/-- the state after k spots -/
abbrev stB (ns : List (Str × Int)) (cs : List Cell) (k : Nat) : Bf := runB ns cs k (startB ns)
structure BOk (ns : List (Str × Int)) (cs : List Cell) (b : Bf) : Prop where
  nd : b.os.Nodup
  hd : ∃ r, b.os = 0 :: r
  sp : ∀ q ∈ b.os, Spot ns cs q
  nm : ∀ n ∈ ns, n.2 ∈ b.os
  le : b.outs.length + 1 ≤ b.os.length
  pr : ∀ i q c, i < b.outs.length → b.os[i + 1]? = some q → cellOf cs q = some c → goalC ns cs c ∈ b.os
theorem foldO_mem : ∀ (vs : List Int) (os : List Int) {b : Int}, b ∈ foldO os vs ↔ b ∈ os ∨ b ∈ vs
  | [], os, b => by simp [foldO]
  | v :: vs, os, b => by
    rw [foldO, foldO_mem vs, addO_mem, List.mem_cons, or_assoc]
theorem foldO_nodup : ∀ (vs : List Int) (os : List Int), os.Nodup → (foldO os vs).Nodup
  | [], _, h => h
  | _ :: vs, _, h => foldO_nodup vs _ (addO_nodup h)
theorem foldO_pre : ∀ (vs : List Int) (os : List Int), os <+: foldO os vs
  | [], _ => List.prefix_refl _
  | _ :: vs, os => (addO_pre os _).trans (foldO_pre vs _)
theorem pre_get {α : Type} {l m : List α} (h : l <+: m) {i : Nat} {x : α} (e : l[i]? = some x) : m[i]? = some x := by
  obtain ⟨t, rfl⟩ := h
  obtain ⟨hi, _⟩ := List.getElem?_eq_some_iff.mp e
  rw [List.getElem?_append_left hi]
  exact e
theorem pre_hd {l m : List Int} (h : l <+: m) (e : ∃ r, l = 0 :: r) : ∃ r, m = 0 :: r := by
  obtain ⟨t, rfl⟩ := h
  obtain ⟨r, rfl⟩ := e
  exact ⟨r ++ t, rfl⟩
section
variable {ns : List (Str × Int)} {cs : List Cell}
theorem BOk.start : BOk ns cs (startB ns) := by
  refine ⟨foldO_nodup _ _ (by simp), pre_hd (foldO_pre _ _) ⟨[], rfl⟩, fun q hq => ?_, fun n hn => ?_, ?_, fun i q c hi => absurd hi (Nat.not_lt_zero _)⟩
  · rcases (foldO_mem _ _).mp hq with h | h
    · exact .inl (List.mem_singleton.mp h)
    · obtain ⟨n, hn, e⟩ := List.mem_map.mp h
      exact .inr (.inl ⟨n, hn, e⟩)
  · exact (foldO_mem _ _).mpr (.inr (List.mem_map_of_mem hn))
  · obtain ⟨r, e⟩ := pre_hd (foldO_pre (ns.map (·.2)) [0]) ⟨[], rfl⟩
    show 0 + 1 ≤ (foldO [0] (ns.map (·.2))).length
    rw [e]
    simp
theorem goal_spot (co : CsOk cs) (h0 : ∀ c ∈ cs, c.a ≠ 0) {q : Int} {c : Cell} (hq : Spot ns cs q) (hc : cellOf cs q = some c) : Spot ns cs (goalC ns cs c) ∧ plainB ns cs c.a = false := by
  obtain ⟨k1, k2⟩ := cell_key hc
  have hp : plainB ns cs c.a = false := by rw [k2]; exact spot_plain co h0 hq
  obtain ⟨g1, g2, _⟩ := goal_ok k1 hp
  exact ⟨(spot_link co h0 g2).mpr g1, hp⟩
theorem BOk.step (co : CsOk cs) (h0 : ∀ c ∈ cs, c.a ≠ 0) {b : Bf} (o : BOk ns cs b) : BOk ns cs (stepB ns cs b) := by
  unfold stepB
  split
  · exact o
  · rename_i q hq
    obtain ⟨hi, _⟩ := List.getElem?_eq_some_iff.mp hq
    split
    · rename_i hc
      refine ⟨o.nd, o.hd, o.sp, o.nm, by dsimp only; rw [List.length_append]; simp only [List.length_cons, List.length_nil]; omega, fun i r c hl hr hcc => ?_⟩
      dsimp only at hl hr ⊢
      rw [List.length_append] at hl
      simp only [List.length_cons, List.length_nil] at hl
      by_cases e : i < b.outs.length
      · exact o.pr i r c e hr hcc
      · have : i = b.outs.length := by omega
        rw [this, hq] at hr
        cases hr
        rw [hc] at hcc
        cases hcc
    · rename_i c hc
      have hg := goal_spot co h0 (o.sp q (List.mem_of_getElem? hq)) hc
      have hpre := addO_pre b.os (goalC ns cs c)
      refine ⟨addO_nodup o.nd, pre_hd hpre o.hd, fun x hx => ?_, fun n hn => addO_mem.mpr (.inl (o.nm n hn)), ?_, fun i r c' hl hr hcc => ?_⟩
      · rcases addO_mem.mp hx with h | h
        · exact o.sp x h
        · rw [h]; exact hg.1
      · dsimp only
        have := hpre.length_le
        rw [List.length_append]
        simp only [List.length_cons, List.length_nil]
        omega
      · dsimp only at hl hr ⊢
        rw [List.length_append] at hl
        simp only [List.length_cons, List.length_nil] at hl
        by_cases e : i < b.outs.length
        · obtain ⟨hi2, e2⟩ : ∃ x, b.os[i + 1]? = some x := ⟨b.os[i + 1]'(by omega), List.getElem?_eq_getElem (by omega)⟩
          have := pre_get hpre e2
          rw [hr] at this
          cases this
          exact addO_mem.mpr (.inl (o.pr i _ c' e e2 hcc))
        · have : i = b.outs.length := by omega
          have e2 := pre_get hpre hq
          rw [← this, hr] at e2
          cases e2
          rw [hc] at hcc
          cases hcc
          exact addO_mem.mpr (.inr rfl)
theorem BOk.at (co : CsOk cs) (h0 : ∀ c ∈ cs, c.a ≠ 0) : ∀ k, BOk ns cs (stB ns cs k)
  | 0 => .start
  | k + 1 => (BOk.at co h0 k).step co h0
theorem seg_head (pl : Int → Bool) (f : Int → Option Cell) (k : Nat) (c : Cell) : c ∈ seg pl f k c := by
  cases k with
  | zero => exact List.mem_singleton.mpr rfl
  | succ k =>
    unfold seg
    split
    · split
      · exact List.mem_cons_self
      · exact List.mem_singleton.mpr rfl
    · exact List.mem_singleton.mpr rfl
theorem seg_next {f : Int → Option Cell} (pl : Int → Bool) (hf : ∀ a d, f a = some d → d.a = a) (hp0 : ∀ a, pl a = true → ∃ d, f a = some d) : ∀ (k : Nat) (c e : Cell), e ∈ seg pl f k c → e = segZ pl f k c ∨ (pl e.l = true ∧ ∃ d ∈ seg pl f k c, d.a = e.l)
  | 0, c, e, h => .inl (List.mem_singleton.mp h)
  | k + 1, c, e, h => by
    cases hp : pl c.l with
    | true =>
      obtain ⟨d, hd⟩ := hp0 _ hp
      obtain ⟨e1, e2⟩ := seg_step hp hd k
      rw [e1] at h ⊢
      rw [e2]
      rcases List.mem_cons.mp h with rfl | h
      · exact .inr ⟨hp, d, List.mem_cons_of_mem _ (seg_head pl f k d), hf _ _ hd⟩
      · exact (seg_next pl hf hp0 k d e h).imp id fun ⟨q, x, h1, h2⟩ => ⟨q, x, List.mem_cons_of_mem _ h1, h2⟩
    | false =>
      obtain ⟨e1, e2⟩ := seg_stop (f := f) hp (k + 1)
      rw [e1] at h
      rw [e2]
      exact .inl (List.mem_singleton.mp h)
/-- every cell that is reached lies in a segment of a spot that was met, once all are done -/
theorem cover (co : CsOk cs) (h0 : ∀ c ∈ cs, c.a ≠ 0) {b : Bf} (o : BOk ns cs b) (dn : b.os.length = b.outs.length + 1) {a : Int} (r : Reach ns cs a) : (a ∈ b.os) ∨ ∃ q c, q ∈ b.os ∧ cellOf cs q = some c ∧ ∃ e ∈ segL ns cs c, e.a = a := by
  have done : ∀ q c, q ∈ b.os → cellOf cs q = some c → goalC ns cs c ∈ b.os := fun q c hq hc => by
    obtain ⟨i, hi⟩ := List.mem_iff_getElem?.mp hq
    obtain ⟨hl, _⟩ := List.getElem?_eq_some_iff.mp hi
    match i, hi, hl with
    | 0, hi, _ =>
      obtain ⟨t, ht⟩ := o.hd
      rw [ht] at hi
      cases hi
      obtain ⟨k1, k2⟩ := cell_key hc
      exact absurd k2 (h0 c k1)
    | i + 1, hi, hl => exact o.pr i q c (by omega) hi hc
  induction r with
  | base n hn => exact .inl (o.nm n hn)
  | step a c _ hc ih =>
    obtain ⟨k1, k2⟩ := cell_key hc
    have nxt : ∀ q c0, q ∈ b.os → cellOf cs q = some c0 → c ∈ segL ns cs c0 → c.l ∈ b.os ∨ ∃ q c1, q ∈ b.os ∧ cellOf cs q = some c1 ∧ ∃ e ∈ segL ns cs c1, e.a = c.l := fun q c0 hq hc0 hm => by
      rcases seg_next (plainB ns cs) (fun a d h => (cell_key h).2) (fun a h => let ⟨d, q, _⟩ := plain_cell h; ⟨d, q⟩) _ _ _ hm with h | ⟨_, d, hd, da⟩
      · refine .inl ?_
        have := done q c0 hq hc0
        unfold goalC lastC at this
        rw [← h] at this
        exact this
      · exact .inr ⟨q, c0, hq, hc0, d, hd, da⟩
    rcases ih with h | ⟨q, c0, hq, hc0, e, he, ea⟩
    · exact nxt a c h hc (seg_head _ _ _ _)
    · have hp := (goal_spot (ns := ns) co h0 (o.sp q hq) hc0).2
      have hs := (goal_ok (cell_key hc0).1 hp).2.2.2.1
      have hec : e ∈ cs := hs.mem (cell_key hc0).1 e (List.mem_reverse.mpr he)
      have h1 := cell_mem co hec
      rw [ea, hc] at h1
      cases h1
      exact nxt q c0 hq hc0 he
end


/-! ### once all spots are met -/
section
variable {ns : List (Str × Int)} {cs : List Cell}
theorem BOk.done (co : CsOk cs) (h0 : ∀ c ∈ cs, c.a ≠ 0) {b : Bf} (o : BOk ns cs b) (dn : b.os.length = b.outs.length + 1) (hl : ∀ c ∈ cs, Reach ns cs c.a) {a : Int} (h : Spot ns cs a) : a ∈ b.os := by
  rcases id h with h1 | ⟨n, hn, e⟩ | ⟨d, hd, dl, _⟩
  · obtain ⟨r, e⟩ := o.hd
    rw [e, h1]
    exact List.mem_cons_self
  · exact e ▸ o.nm n hn
  · have r : Reach ns cs a := dl ▸ .step d.a d (hl d hd) (cell_mem co hd)
    rcases cover co h0 o dn r with q | ⟨q, c, hq, hc, e, he, ea⟩
    · exact q
    · obtain ⟨k1, k2⟩ := cell_key hc
      have hp := (goal_spot (ns := ns) co h0 (o.sp q hq) hc).2
      have hs := (goal_ok k1 hp).2.2.2.1
      rcases hs.pred e (List.mem_reverse.mpr he) with z | ⟨_, _, _, z⟩
      · rw [← ea, z, k2]
        exact hq
      · have := spot_plain co h0 h
        rw [ea, this] at z
        cases z
theorem BOk.count (co : CsOk cs) (h0 : ∀ c ∈ cs, c.a ≠ 0) {b : Bf} (o : BOk ns cs b) {sk : List Int} (hn : sk.Nodup) (hs : ∀ a, a ∈ sk ↔ Spot ns cs a) : b.os.length ≤ sk.length := nodup_le o.nd fun a ha => (hs a).mpr (o.sp a ha)
theorem BOk.full (co : CsOk cs) (h0 : ∀ c ∈ cs, c.a ≠ 0) {b : Bf} (o : BOk ns cs b) (dn : b.os.length = b.outs.length + 1) (hl : ∀ c ∈ cs, Reach ns cs c.a) {sk : List Int} (hn : sk.Nodup) (hs : ∀ a, a ∈ sk ↔ Spot ns cs a) : b.os.length = sk.length :=
  Nat.le_antisymm (o.count co h0 hn hs) (nodup_le hn fun a ha => o.done co h0 dn hl ((hs a).mp ha))
/-- a bound without the spots' list -/
theorem BOk.bound {b : Bf} (o : BOk ns cs b) : b.os.length ≤ 1 + ns.length + cs.length := by
  have := nodup_le o.nd (l2 := 0 :: (ns.map (·.2) ++ cs.map (·.l))) fun a ha => by
    rcases o.sp a ha with h | ⟨n, hn, e⟩ | ⟨d, hd, e, _⟩
    · rw [h]; exact List.mem_cons_self
    · exact List.mem_cons_of_mem _ (List.mem_append_left _ (e ▸ List.mem_map_of_mem hn))
    · exact List.mem_cons_of_mem _ (List.mem_append_right _ (e ▸ List.mem_map_of_mem hd))
  rw [List.length_cons, List.length_append, List.length_map, List.length_map] at this
  omega
theorem step_len {b : Bf} (h : b.outs.length + 1 < b.os.length) : (stepB ns cs b).outs.length = b.outs.length + 1 := by
  obtain ⟨q, hq⟩ : ∃ q, b.os[b.outs.length + 1]? = some q := ⟨_, List.getElem?_eq_getElem h⟩
  unfold stepB
  rw [hq]
  dsimp only
  split <;> (dsimp only; rw [List.length_append]; simp)
theorem step_stop {b : Bf} (h : b.os.length = b.outs.length + 1) : stepB ns cs b = b := by
  have hq : b.os[b.outs.length + 1]? = none := List.getElem?_eq_none (by omega)
  unfold stepB
  rw [hq]
/-- both loops end alike -/
theorem end_eq (co : CsOk cs) (h0 : ∀ c ∈ cs, c.a ≠ 0) {k j : Nat} (hk : (stB ns cs k).os.length = (stB ns cs k).outs.length + 1) (hj : (stB ns cs j).os.length = (stB ns cs j).outs.length + 1) : stB ns cs k = stB ns cs j := by
  have stay : ∀ {k : Nat}, (stB ns cs k).os.length = (stB ns cs k).outs.length + 1 → ∀ d, stB ns cs (k + d) = stB ns cs k := by
    intro k hk d
    induction d with
    | zero => rfl
    | succ d ih =>
      show stepB ns cs (stB ns cs (k + d)) = _
      rw [ih, step_stop hk]
  rcases Nat.le_total k j with h | h
  · obtain ⟨d, rfl⟩ := Nat.exists_eq_add_of_le h
    exact (stay hk d).symm
  · obtain ⟨d, rfl⟩ := Nat.exists_eq_add_of_le h
    exact stay hj d
/-- what stands in the outs -/
def outOf (ns : List (Str × Int)) (cs : List Cell) (os : List Int) (q : Int) : Option (Int × Int) := match cellOf cs q with
  | none => none
  | some c => some (((os.idxOf (goalC ns cs c) : Nat) : Int), c.s)
theorem idx_pre {l m : List Int} (h : l <+: m) {x : Int} (hx : x ∈ l) : m.idxOf x = l.idxOf x := by
  obtain ⟨t, rfl⟩ := h
  rw [List.idxOf_append, if_pos hx]
structure OutsAt (ns : List (Str × Int)) (cs : List Cell) (b : Bf) : Prop where
  at_ : ∀ i, i < b.outs.length → ∃ q, b.os[i + 1]? = some q ∧ b.outs[i]? = some (outOf ns cs b.os q)
theorem OutsAt.step (co : CsOk cs) (h0 : ∀ c ∈ cs, c.a ≠ 0) {b : Bf} (o : BOk ns cs b) (h : OutsAt ns cs b) : OutsAt ns cs (stepB ns cs b) := by
  have o' := o.step co h0
  refine ⟨fun i hi => ?_⟩
  by_cases hlt : b.outs.length + 1 < b.os.length
  · obtain ⟨q, hq⟩ : ∃ q, b.os[b.outs.length + 1]? = some q := ⟨_, List.getElem?_eq_getElem hlt⟩
    rw [step_len hlt] at hi
    unfold stepB at o' ⊢
    rw [hq] at o' ⊢
    dsimp only at o' ⊢
    cases hc : cellOf cs q with
    | none =>
      rw [hc] at o'
      dsimp only at o' ⊢
      by_cases e : i < b.outs.length
      · obtain ⟨r, h1, h2⟩ := h.at_ i e
        exact ⟨r, h1, by rw [List.getElem?_append_left e]; exact h2⟩
      · have : i = b.outs.length := by omega
        subst this
        exact ⟨q, hq, by rw [List.getElem?_append_right (Nat.le_refl _), Nat.sub_self]; unfold outOf; rw [hc]; rfl⟩
    | some c =>
      rw [hc] at o'
      dsimp only at o' ⊢
      have hpre := addO_pre b.os (goalC ns cs c)
      by_cases e : i < b.outs.length
      · obtain ⟨r, h1, h2⟩ := h.at_ i e
        refine ⟨r, pre_get hpre h1, ?_⟩
        rw [List.getElem?_append_left e, h2]
        unfold outOf
        cases hr : cellOf cs r with
        | none => rfl
        | some c' =>
          dsimp only
          rw [idx_pre hpre (o.pr i r c' e h1 hr)]
      · have : i = b.outs.length := by omega
        subst this
        exact ⟨q, pre_get hpre hq, by rw [List.getElem?_append_right (Nat.le_refl _), Nat.sub_self]; unfold outOf; rw [hc]; rfl⟩
  · have e : b.os.length = b.outs.length + 1 := by have := o.le; omega
    rw [step_stop e] at hi ⊢
    exact h.at_ i hi
theorem OutsAt.at (co : CsOk cs) (h0 : ∀ c ∈ cs, c.a ≠ 0) : ∀ k, OutsAt ns cs (stB ns cs k)
  | 0 => ⟨fun i hi => absurd hi (Nat.not_lt_zero _)⟩
  | k + 1 => (OutsAt.at co h0 k).step co h0 (BOk.at co h0 k)
theorem fm_one {α β : Type} {f : α → Option β} : ∀ {l : List α} {x : β}, l.filterMap f = [x] → ∀ {i j : Nat} {u v : α} {y z : β}, l[i]? = some u → l[j]? = some v → f u = some y → f v = some z → i = j
  | [], _, h, _, _, _, _, _, _, hi, _, _, _ => by cases hi
  | a :: l, x, h, i, j, u, v, y, z, hi, hj, hu, hv => by
    have nomem : ∀ {k : Nat} {w : α} {t : β}, l.filterMap f = [] → l[k]? = some w → f w = some t → False := fun e hk hw => by
      have := List.mem_filterMap.mpr ⟨_, List.mem_of_getElem? hk, hw⟩
      rw [e] at this
      cases this
    cases ha : f a with
    | none =>
      rw [List.filterMap_cons_none ha] at h
      match i, j, hi, hj with
      | 0, _, hi, _ => cases hi; rw [ha] at hu; cases hu
      | _ + 1, 0, _, hj => cases hj; rw [ha] at hv; cases hv
      | i + 1, j + 1, hi, hj => rw [fm_one h hi hj hu hv]
    | some b =>
      rw [List.filterMap_cons_some ha] at h
      have ht : l.filterMap f = [] := (List.cons.inj h).2
      match i, j, hi, hj with
      | 0, 0, _, _ => rfl
      | 0, j + 1, _, hj => exact (nomem ht hj hv).elim
      | i + 1, 0, hi, _ => exact (nomem ht hi hu).elim
      | i + 1, j + 1, hi, _ => exact (nomem ht hi hu).elim
theorem idx_get {l : List Int} (nd : l.Nodup) {i : Nat} {x : Int} (h : l[i]? = some x) : l.idxOf x = i := by
  obtain ⟨hi, e⟩ := List.getElem?_eq_some_iff.mp h
  rw [← e]
  exact nd.idxOf_getElem i hi
theorem get_idx {l : List Int} {x : Int} (h : x ∈ l) : l[l.idxOf x]? = some x := by
  have hlt := List.idxOf_lt_length_iff.mpr h
  rw [List.getElem?_eq_getElem hlt, List.getElem_idxOf hlt]
/-- no spot that was met is plain in the figure -/
theorem no_plain (co : CsOk cs) (h0 : ∀ c ∈ cs, c.a ≠ 0) {b : Bf} (o : BOk ns cs b) (oa : OutsAt ns cs b) (dn : b.os.length = b.outs.length + 1) (hl : ∀ c ∈ cs, Reach ns cs c.a) {s : Nat} {g sh : Int} (hs : b.outs[s]? = some (some (g, sh)))
    (hna : ∀ n ∈ ns, b.os.idxOf n.2 ≠ s + 1) (h1 : b.outs.filterMap (fun x => match x with | some (g', t) => if g' = ((s : Nat) : Int) + 1 then some t else none | none => none) = [sh]) : False := by
  obtain ⟨hsl, _⟩ := List.getElem?_eq_some_iff.mp hs
  obtain ⟨a, ha, hout⟩ := oa.at_ s hsl
  rw [hs] at hout
  have hout := Option.some.inj hout
  unfold outOf at hout
  cases hc : cellOf cs a with
  | none => rw [hc] at hout; cases hout
  | some c =>
    rw [hc] at hout
    have hcs : sh = c.s := (Prod.mk.inj (Option.some.inj hout)).2
    have hsp := o.sp a (List.mem_of_getElem? ha)
    have hnn : ∀ n ∈ ns, n.2 ≠ a := fun n hn e => hna n hn (by rw [e]; exact idx_get o.nd ha)
    -- a segment that leads there
    have lead : ∀ d ∈ cs, d.l = a → ∃ i q c', b.os[i + 1]? = some q ∧ cellOf cs q = some c' ∧ i < b.outs.length ∧ d = lastC ns cs c' := fun d hd dl => by
      have r := hl d hd
      obtain ⟨q, c', hq, hc', hm⟩ : ∃ q c', q ∈ b.os ∧ cellOf cs q = some c' ∧ d ∈ segL ns cs c' := by
        rcases cover co h0 o dn r with z | ⟨q, c', hq, hc', e, he, ea⟩
        · exact ⟨d.a, d, z, cell_mem co hd, seg_head _ _ _ _⟩
        · have hp := (goal_spot (ns := ns) co h0 (o.sp q hq) hc').2
          have hsg := (goal_ok (cell_key hc').1 hp).2.2.2.1
          have hec : e ∈ cs := hsg.mem (cell_key hc').1 e (List.mem_reverse.mpr he)
          have q1 := cell_mem co hec
          rw [ea, cell_mem co hd] at q1
          cases q1
          exact ⟨q, c', hq, hc', he⟩
      obtain ⟨i, hi⟩ := List.mem_iff_getElem?.mp hq
      obtain ⟨hil, _⟩ := List.getElem?_eq_some_iff.mp hi
      match i, hi, hil with
      | 0, hi, _ =>
        obtain ⟨t, ht⟩ := o.hd
        rw [ht] at hi
        cases hi
        obtain ⟨k1, k2⟩ := cell_key hc'
        exact absurd k2 (h0 c' k1)
      | i + 1, hi, hil =>
        refine ⟨i, q, c', hi, hc', by omega, ?_⟩
        rcases seg_next (plainB ns cs) (fun a d h => (cell_key h).2) (fun a h => let ⟨d, q, _⟩ := plain_cell h; ⟨d, q⟩) _ _ _ hm with z | ⟨z, _⟩
        · exact z
        · rw [dl, spot_plain co h0 hsp] at z
          cases z
    have entry : ∀ i q c', b.os[i + 1]? = some q → cellOf cs q = some c' → i < b.outs.length → (lastC ns cs c').l = a → b.outs[i]? = some (some (((s : Nat) : Int) + 1, c'.s)) := fun i q c' hi hc' hil hla => by
      obtain ⟨q2, h2, h3⟩ := oa.at_ i hil
      rw [hi] at h2
      cases h2
      rw [h3]
      unfold outOf
      rw [hc']
      dsimp only
      have : b.os.idxOf (goalC ns cs c') = s + 1 := by
        show b.os.idxOf (lastC ns cs c').l = s + 1
        rw [hla]
        exact idx_get o.nd ha
      rw [this]
      rfl
    -- the one entry
    have hmem : sh ∈ b.outs.filterMap (fun x => match x with | some (g', t) => if g' = ((s : Nat) : Int) + 1 then some t else none | none => none) := by rw [h1]; exact List.mem_singleton.mpr rfl
    obtain ⟨x, hx, hfx⟩ := List.mem_filterMap.mp hmem
    match x, hx, hfx with
    | none, _, hfx => cases hfx
    | some (g', t), hx, hfx =>
      dsimp only at hfx
      by_cases eg : g' = ((s : Nat) : Int) + 1
      · rw [if_pos eg] at hfx
        have et : t = sh := Option.some.inj hfx
        obtain ⟨i, hi⟩ := List.mem_iff_getElem?.mp hx
        obtain ⟨hil, _⟩ := List.getElem?_eq_some_iff.mp hi
        obtain ⟨q, hq, hqo⟩ := oa.at_ i hil
        rw [hi] at hqo
        have hqo := Option.some.inj hqo
        unfold outOf at hqo
        cases hc' : cellOf cs q with
        | none => rw [hc'] at hqo; cases hqo
        | some c' =>
          rw [hc'] at hqo
          obtain ⟨e1, e2⟩ := Prod.mk.inj (Option.some.inj hqo)
          have hq2 := goal_spot (ns := ns) co h0 (o.sp q (List.mem_of_getElem? hq)) hc'
          obtain ⟨_, gl, gs, _⟩ := goal_ok (ns := ns) (cell_key hc').1 hq2.2
          have hgo := o.pr i q c' hil hq hc'
          have hla : (lastC ns cs c').l = a := by
            have : b.os.idxOf (goalC ns cs c') = s + 1 := by omega
            have h3 := get_idx hgo
            rw [this, ha] at h3
            exact (Option.some.inj h3).symm
          have hin : inc cs a = [lastC ns cs c'] := filter_eq_one co.nodup gl (decide_eq_true hla) fun e he pe => by
            obtain ⟨j, q', c2, hj, hc2, hjl, rfl⟩ := lead e he (of_decide_eq_true pe)
            have h4 := entry j q' c2 hj hc2 hjl (of_decide_eq_true pe)
            have hij : i = j := fm_one h1 hi h4 (y := t) (z := c2.s) (by dsimp only; rw [if_pos eg]) (by dsimp only; rw [if_pos rfl])
            subst hij
            rw [hq] at hj
            cases hj
            rw [hc'] at hc2
            cases hc2
            rfl
          have := plain_of hc hnn hin (by rw [gs, ← hcs, ← et, e2])
          rw [spot_plain co h0 hsp] at this
          cases this
      · rw [if_neg eg] at hfx
        cases hfx
end


/-! ### the numbers of the spots: no program in sight -/
structure Numbered (at_ : List Int) (os : List (Option (Int × Int))) : Prop where
  nb : ∃ kn kw : Nat → Int, kn 0 = 0 ∧ (∀ j a, at_[j]? = some a → a ≤ kn j + 1 ∧ kn (j + 1) = if a > kn j then a else kn j) ∧ kw 0 = kn at_.length ∧ (∀ v, v < os.length → (v : Int) < kw v) ∧
    (∀ v, os[v]? = some none → kw (v + 1) = kw v) ∧ (∀ v g s, os[v]? = some (some (g, s)) → g ≤ kw v + 1 ∧ kw (v + 1) = if g > kw v then g else kw v) ∧ kw os.length = os.length
theorem foldO_app : ∀ (l : List Int) (os m : List Int), foldO os (l ++ m) = foldO (foldO os l) m
  | [], _, _ => rfl
  | x :: l, os, m => foldO_app l (addO os x) m
theorem foldO_take (os l : List Int) (j : Nat) : foldO os (l.take j) <+: foldO os l := by
  conv => rhs; rw [← List.take_append_drop j l, foldO_app]
  exact foldO_pre _ _
theorem foldO_succ {l : List Int} {j : Nat} {v : Int} (os : List Int) (h : l[j]? = some v) : foldO os (l.take (j + 1)) = addO (foldO os (l.take j)) v := by
  rw [List.take_add_one, h, foldO_app]
  rfl
theorem addO_idx (os : List Int) (a : Int) : (a ∈ os ∧ addO os a = os ∧ (addO os a).idxOf a < os.length) ∨ (a ∉ os ∧ (addO os a).idxOf a = os.length ∧ (addO os a).length = os.length + 1) := by
  by_cases h : a ∈ os
  · refine .inl ⟨h, if_pos h, ?_⟩
    unfold addO
    rw [if_pos h]
    exact List.idxOf_lt_length_iff.mpr h
  · refine .inr ⟨h, ?_, ?_⟩ <;> unfold addO <;> rw [if_neg h]
    · rw [List.idxOf_append, if_neg h]
      simp
    · simp
def atOf (ns : List (Str × Int)) (F : List Int) : List Int := ns.map fun n => ((F.idxOf n.2 : Nat) : Int)
section
variable {ns : List (Str × Int)} {cs : List Cell}
theorem step_le (b : Bf) : (stepB ns cs b).outs.length ≤ b.outs.length + 1 := by
  unfold stepB
  split
  · omega
  · split <;> (dsimp only; rw [List.length_append]; simp)
theorem outs_le : ∀ k : Nat, (stB ns cs k).outs.length ≤ k
  | 0 => Nat.le_refl _
  | k + 1 => Nat.le_trans (step_le _) (Nat.succ_le_succ (outs_le k))
theorem outs_add (k : Nat) : ∀ d : Nat, (stB ns cs (k + d)).outs.length ≤ (stB ns cs k).outs.length + d
  | 0 => Nat.le_refl _
  | d + 1 => Nat.le_trans (step_le _) (Nat.succ_le_succ (outs_add k d))
theorem outs_at {k v : Nat} (h : (stB ns cs k).outs.length = k) (hv : v ≤ k) : (stB ns cs v).outs.length = v := by
  obtain ⟨d, rfl⟩ := Nat.exists_eq_add_of_le hv
  have h1 := outs_add (ns := ns) (cs := cs) v d
  have h2 := outs_le (ns := ns) (cs := cs) v
  omega
theorem step_pre (b : Bf) : b.os <+: (stepB ns cs b).os ∧ b.outs <+: (stepB ns cs b).outs ∧ b.words <+: (stepB ns cs b).words := by
  unfold stepB
  split
  · exact ⟨List.prefix_refl _, List.prefix_refl _, List.prefix_refl _⟩
  · split
    · exact ⟨List.prefix_refl _, List.prefix_append _ _, List.prefix_refl _⟩
    · exact ⟨addO_pre _ _, List.prefix_append _ _, List.prefix_append _ _⟩
theorem st_pre {v k : Nat} (h : v ≤ k) : (stB ns cs v).os <+: (stB ns cs k).os ∧ (stB ns cs v).outs <+: (stB ns cs k).outs := by
  obtain ⟨d, rfl⟩ := Nat.exists_eq_add_of_le h
  clear h
  induction d with
  | zero => exact ⟨List.prefix_refl _, List.prefix_refl _⟩
  | succ d ih =>
    have := step_pre (ns := ns) (cs := cs) (stB ns cs (v + d))
    exact ⟨ih.1.trans this.1, ih.2.trans this.2.1⟩
theorem undone (co : CsOk cs) (h0 : ∀ c ∈ cs, c.a ≠ 0) {k v : Nat} (h : (stB ns cs k).outs.length = k) (hv : v < k) : v + 1 < (stB ns cs v).os.length := by
  have o := BOk.at (ns := ns) co h0 v
  have h1 := outs_at h (Nat.le_of_lt hv)
  have h2 := outs_at h hv
  have h3 := o.le
  by_cases e : (stB ns cs v).os.length = (stB ns cs v).outs.length + 1
  · have h4 : stB ns cs (v + 1) = stB ns cs v := step_stop e
    rw [h4] at h2
    omega
  · omega
/-- one step -/
theorem step_is {b : Bf} {q : Int} (hq : b.os[b.outs.length + 1]? = some q) : (cellOf cs q = none ∧ stepB ns cs b = ⟨b.os, b.outs ++ [none], b.words⟩) ∨
    ∃ c, cellOf cs q = some c ∧ stepB ns cs b = ⟨addO b.os (goalC ns cs c), b.outs ++ [some ((((addO b.os (goalC ns cs c)).idxOf (goalC ns cs c) : Nat) : Int), c.s)], b.words ++ [marksOf (segL ns cs c)]⟩ := by
  unfold stepB
  rw [hq]
  dsimp only
  cases h : cellOf cs q with
  | none => exact .inl ⟨rfl, rfl⟩
  | some c => exact .inr ⟨c, rfl, rfl⟩
theorem numbered (co : CsOk cs) (h0 : ∀ c ∈ cs, c.a ≠ 0) {k : Nat} (hk : (stB ns cs k).outs.length = k) (dn : (stB ns cs k).os.length = k + 1) : Numbered (atOf ns (stB ns cs k).os) (stB ns cs k).outs := by
  have stp : ∀ v, v < k → ∃ q, (stB ns cs v).os[v + 1]? = some q ∧ ((cellOf cs q = none ∧ (stB ns cs k).outs[v]? = some none ∧ (stB ns cs (v + 1)).os = (stB ns cs v).os) ∨
      ∃ c, (stB ns cs k).outs[v]? = some (some ((((addO (stB ns cs v).os (goalC ns cs c)).idxOf (goalC ns cs c) : Nat) : Int), c.s)) ∧ (stB ns cs (v + 1)).os = addO (stB ns cs v).os (goalC ns cs c)) := by
    intro v hv
    have h1 := outs_at hk (Nat.le_of_lt hv)
    have h2 := undone co h0 hk hv
    obtain ⟨q, hq⟩ : ∃ q, (stB ns cs v).os[v + 1]? = some q := ⟨_, List.getElem?_eq_getElem h2⟩
    refine ⟨q, hq, ?_⟩
    have hp := (st_pre (ns := ns) (cs := cs) (show v + 1 ≤ k from hv)).2
    have hlast : ∀ o, (stB ns cs (v + 1)).outs = (stB ns cs v).outs ++ [o] → (stB ns cs k).outs[v]? = some o := fun o ho => by
      rw [ho] at hp
      refine pre_get hp ?_
      rw [List.getElem?_append_right (by omega), h1, Nat.sub_self]
      rfl
    have hq' : (stB ns cs v).os[(stB ns cs v).outs.length + 1]? = some q := by rw [h1]; exact hq
    rcases step_is (ns := ns) (cs := cs) hq' with ⟨hc, hs⟩ | ⟨c, hc, hs⟩
    · have hs' : stB ns cs (v + 1) = _ := hs
      exact .inl ⟨hc, hlast _ (by rw [hs']), by rw [hs']⟩
    · have hs' : stB ns cs (v + 1) = _ := hs
      exact .inr ⟨c, hlast _ (by rw [hs']), by rw [hs']⟩
  refine ⟨fun j => (((foldO [0] ((ns.map (·.2)).take j)).length : Nat) : Int) - 1, fun v => ((stB ns cs v).os.length : Int) - 1, ?_, fun j a ha => ?_, ?_, fun v hv => ?_, fun v hv => ?_, fun v g s hv => ?_, ?_⟩
  · simp [foldO]
  · unfold atOf at ha
    rw [List.getElem?_map] at ha
    obtain ⟨n, hn, rfl⟩ := Option.map_eq_some_iff.mp ha
    have hv : (ns.map (·.2))[j]? = some n.2 := by rw [List.getElem?_map, hn]; rfl
    dsimp only
    rw [foldO_succ _ hv]
    have hp : addO (foldO [0] ((ns.map (·.2)).take j)) n.2 <+: (stB ns cs k).os := by
      rw [← foldO_succ _ hv]
      exact (foldO_take _ _ _).trans (st_pre (ns := ns) (cs := cs) (Nat.zero_le k)).1
    rw [idx_pre hp (addO_mem.mpr (.inr rfl))]
    have hpos : 0 < (foldO [0] ((ns.map (·.2)).take j)).length := by
      have := (foldO_pre ((ns.map (·.2)).take j) [0]).length_le
      exact this
    rcases addO_idx (foldO [0] ((ns.map (·.2)).take j)) n.2 with ⟨_, e, hl⟩ | ⟨_, e, hl⟩
    · rw [e] at hl ⊢
      refine ⟨by omega, ?_⟩
      split <;> omega
    · rw [e, hl]
      refine ⟨by omega, ?_⟩
      split <;> omega
  · dsimp only
    unfold atOf
    rw [List.length_map, List.take_of_length_le (by rw [List.length_map]; exact Nat.le_refl _)]
    rfl
  · rw [hk] at hv
    have := undone co h0 hk hv
    dsimp only
    omega
  · have hlt : v < k := by
      obtain ⟨h, _⟩ := List.getElem?_eq_some_iff.mp hv
      omega
    obtain ⟨q, _, ⟨_, _, e⟩ | ⟨c, e, _⟩⟩ := stp v hlt
    · dsimp only
      rw [e]
    · rw [hv] at e
      cases e
  · have hlt : v < k := by
      obtain ⟨h, _⟩ := List.getElem?_eq_some_iff.mp hv
      omega
    obtain ⟨q, _, ⟨_, e, _⟩ | ⟨c, e, e2⟩⟩ := stp v hlt
    · rw [hv] at e
      cases e
    · rw [hv] at e
      have e3 := (Prod.mk.inj (Option.some.inj (Option.some.inj e))).1
      dsimp only
      rw [e2, e3]
      have hp := undone co h0 hk hlt
      rcases addO_idx (stB ns cs v).os (goalC ns cs c) with ⟨_, e4, hl⟩ | ⟨_, e4, hl⟩
      · rw [e4] at hl ⊢
        refine ⟨by omega, ?_⟩
        split <;> omega
      · rw [e4, hl]
        refine ⟨by omega, ?_⟩
        split <;> omega
  · rw [hk]
    dsimp only
    rw [dn]
    omega
theorem at_bound {k : Nat} (co : CsOk cs) (h0 : ∀ c ∈ cs, c.a ≠ 0) (hk : (stB ns cs k).outs.length = k) (dn : (stB ns cs k).os.length = k + 1) : ∀ a ∈ atOf ns (stB ns cs k).os, 0 ≤ a ∧ a ≤ (stB ns cs k).outs.length := by
  intro a ha
  obtain ⟨n, hn, rfl⟩ := List.mem_map.mp ha
  have := List.idxOf_lt_length_iff.mpr ((BOk.at (ns := ns) co h0 k).nm n hn)
  omega
theorem outs_bound {k : Nat} (co : CsOk cs) (h0 : ∀ c ∈ cs, c.a ≠ 0) (hk : (stB ns cs k).outs.length = k) (dn : (stB ns cs k).os.length = k + 1) {g s : Int} (h : some (g, s) ∈ (stB ns cs k).outs) : 0 ≤ g ∧ g ≤ (stB ns cs k).outs.length ∧ ∃ c ∈ cs, s = c.s := by
  obtain ⟨i, hi⟩ := List.mem_iff_getElem?.mp h
  obtain ⟨hl, _⟩ := List.getElem?_eq_some_iff.mp hi
  obtain ⟨q, hq, ho⟩ := (OutsAt.at (ns := ns) co h0 k).at_ i hl
  rw [hi] at ho
  have ho := Option.some.inj ho
  unfold outOf at ho
  cases hc : cellOf cs q with
  | none => rw [hc] at ho; cases ho
  | some c =>
    rw [hc] at ho
    obtain ⟨e1, e2⟩ := Prod.mk.inj (Option.some.inj ho)
    have := List.idxOf_lt_length_iff.mpr ((BOk.at (ns := ns) co h0 k).pr i q c hl hq hc)
    exact ⟨by omega, by omega, c, (cell_key hc).1, e2⟩
end


/-! ### figures: outs_as_tuples, held_spots, figure_key -/
theorem cr_tupOfK {X : Cx} {K : PySem.W.Frag} (h : X.K = K) : CallR X (.type "tuple") (rTupOf K) := h ▸ cr_tupOf
theorem pg_tupK {X : Cx} {K : PySem.W.Frag} {es : List Expr} {k : Nat} {t : TGs} {n : Nat} {pos : Pos} (hK : X.K = K) (hc : X.calm = true) (h : PGs X es t)
    (hn : (assignEach es X.env).length = n := by rfl) (hst : (assignEach es X.env).findIdx? (·.1) = none := by rfl) : PG X (.Tuple es k pos) (gTup K n t) := hK ▸ pg_tup hc h hn hst
theorem pi_tupK {X : Cx} {K : PySem.W.Frag} {tg l : Expr} {tl : TE} (hK : X.K = K) (hl : PE X l tl) : PI X tg l (iTup K tl) := hK ▸ pi_tup hl
def dOut : Option (Int × Int) → PyData
  | none => .none
  | some (g, s) => .tuple [.int g, .int s]
def OutsIn (K : PySem.W.Frag) (H : Hp) (p : Addr) (os : List (Option (Int × Int))) : Prop := ∃ xs, SeqOf K H p xs ∧ DpAll K H xs (os.map dOut)
theorem OutsIn.ex {K : PySem.W.Frag} {H H' : Hp} {p : Addr} {os : List (Option (Int × Int))} (e : Ex H H') (h : OutsIn K H p os) : OutsIn K H' p os := let ⟨xs, a, b⟩ := h; ⟨xs, a.ex e, DpAll_ex e _ _ b⟩
theorem dp_out {K : PySem.W.Frag} {H : Hp} {x : V} {o : Option (Int × Int)} (h : Dp K H x (dOut o)) : (o = none ∧ x = .non) ∨ ∃ g s t, o = some (g, s) ∧ x = .ref t ∧ SqT K H t [.int g, .int s] := by
  cases o with
  | none => cases h; exact .inl ⟨rfl, rfl⟩
  | some q =>
    obtain ⟨g, s⟩ := q
    cases h with
    | tup hs ha =>
      cases ha with
      | cons h1 ha => cases ha with
        | cons h2 ha =>
          cases ha
          cases h1
          cases h2
          exact .inr ⟨g, s, _, rfl, rfl, hs⟩
theorem dp_get {K : PySem.W.Frag} {H : Hp} {α : Type} {f : α → PyData} {xs : List V} {l : List α} (h : DpAll K H xs (l.map f)) {i : Nat} {x : V} (e : xs[i]? = some x) : ∃ a, l[i]? = some a ∧ Dp K H x (f a) := by
  obtain ⟨d, hd, hp⟩ := L3.DpAll.get h e
  obtain ⟨a, ha, rfl⟩ := map_at hd
  exact ⟨a, ha, hp⟩
theorem dp_len {K : PySem.W.Frag} {H : Hp} {α : Type} {f : α → PyData} {xs : List V} {l : List α} (h : DpAll K H xs (l.map f)) : xs.length = l.length := by
  rw [L3.DpAll.length h, List.length_map]
/-- list comprehensions whose items are data -/
theorem paired_dp {K : PySem.W.Frag} {H : Hp} {α : Type} (f : α → PyData) (cs : List α) {n : Nat} (sel : α → Bool) {ys : List V} (hn : cs.length = n) (pr : Paired (fun i y => ∃ c, cs[i]? = some c ∧ Dp K H y (f c)) ((List.range n).filter fun i => match cs[i]? with | some c => sel c | none => false) ys) : DpAll K H ys ((cs.filter sel).map f) := by
  have aux : ∀ (is : List Nat) (ys : List V) (pr : Paired (fun i y => ∃ c, cs[i]? = some c ∧ Dp K H y (f c)) is ys), DpAll K H ys ((is.filterMap fun i => cs[i]?).map f) := by
    intro is ys pr
    induction pr with
    | nil => exact .nil
    | cons h t ih =>
      obtain ⟨c, hc, hp⟩ := h
      rw [List.filterMap_cons_some hc]
      exact .cons hp ih
  have h := aux _ _ pr
  have e : ((List.range n).filter fun i => match cs[i]? with | some c => sel c | none => false).filterMap (fun i => cs[i]?) = cs.filter sel := by
    subst hn
    have := filt_range sel (fun c : α => some c) (fun o => match o with | some c => sel c | none => false) (fun o => o) (fun _ => rfl) (fun _ => rfl) cs
    have h2 := congrArg (List.filterMap id) this
    rw [List.filterMap_map] at h2
    have h3 : List.filterMap id ((cs.filter sel).map fun c => some c) = cs.filter sel := by
      rw [List.filterMap_map]
      exact List.filterMap_some ..
    rw [h3] at h2
    exact h2
  rw [e] at h
  exact h
theorem lc_data {α : Type} {K : PySem.W.Frag} {J : It} {n : Nat} {G : Hp → Prop} {Y : Nat → Hp → V → Hp → Prop} {g : TG} {tt : TT} {te : TE} {vs : List Nat} {σ : L2.St} {Q : VK} {H1 : Hp} (w : Walk J n G Y) (cs : List α) (hn : cs.length = n) (hz : n ≤ 100000) (sel : α → Bool) (f : α → PyData) (nl : ∀ c ∈ cs, noL (f c) = true) (hG : ∀ H', Ex H1 H' → G H')
    (hs : ∀ (i : Nat) (c : α) (x : V) (H' H'' : Hp) (R1 : V → Hp → Prop) (R0 : Hp → Prop), cs[i]? = some c → Ex H1 H' → Y i H' x H'' → (∀ y H4, Ex H' H4 → sel c = true → Dp K H4 y (f c) → R1 y H4) → (∀ H3, Ex H' H3 → sel c = false → R0 H3) →
      g x (wipe σ vs) H'' fun σ2 H2 => wipe σ2 vs = wipe σ vs ∧ tt σ2 H2 fun b H3 => if b = true then te σ2 H3 R1 else R0 H3)
    (hd : ∀ D H' ys, H1 D = none → Ex H1 H' → H' D = some (.lst ys) → DpAll K H' ys ((cs.filter sel).map f) → Q (.ref D) H') : LcK J g tt te vs σ Q H1 := by
  refine lc_rel w (fun i => match cs[i]? with | some c => sel c | none => false) (fun i y H => ∃ c, cs[i]? = some c ∧ Dp K H y (f c)) hz (fun i y H H' e ⟨c, hc, hp⟩ => ⟨c, hc, Dp_exT e _ _ (nl c (List.mem_of_getElem? hc)) hp⟩) hG (fun i x H' H'' R1 R0 hi e y q1 q0 => ?_) (fun D H' ys hD e hL pr => ?_)
  · obtain ⟨c, hc⟩ : ∃ c, cs[i]? = some c := ⟨cs[i]'(by omega), List.getElem?_eq_getElem (by omega)⟩
    exact hs i c x H' H'' R1 R0 hc e y (fun y H4 e4 hf hp => q1 y H4 e4 (by simp only [hc]; exact hf) ⟨c, hc, hp⟩) fun H3 e3 hf => q0 _ e3 (by simp only [hc]; exact hf)
  · exact hd D H' ys hD e hL (paired_dp f cs sel hn pr)
def dOuts (os : List (Option (Int × Int))) : PyData := .tuple (os.map dOut)
theorem noL_out (o : Option (Int × Int)) : noL (dOut o) = true := by
  cases o with
  | none => rfl
  | some q => simp [dOut, noL, noLs]
def heldOf (os : List (Option (Int × Int))) : List Int := (os.zipIdx.filter fun q => q.1.isSome).map fun q => ((q.2 : Nat) : Int) + 1
def dIntT (xs : List Int) : PyData := .tuple (xs.map PyData.int)
theorem dp_intsA {K : PySem.W.Frag} {H : Hp} : ∀ xs : List Int, DpAll K H (xs.map V.int) (xs.map PyData.int)
  | [] => .nil
  | x :: xs => .cons (.int x) (dp_intsA xs)
def spOutsT (K : PySem.W.Frag) : Sp := fun vs H Q _ => ∃ (p : Addr) (os : List (Option (Int × Int))), vs = [.ref p] ∧ OutsIn K H p os ∧ os.length ≤ 1000 ∧ ∀ H' t, Ex H H' → Dp K H' (.ref t) (dOuts os) → Q (.ref t) H'
def spHeld (K : PySem.W.Frag) : Sp := fun vs H Q _ => ∃ (p : Addr) (os : List (Option (Int × Int))), vs = [.ref p] ∧ OutsIn K H p os ∧ os.length ≤ 1000 ∧ ∀ H' t, Ex H H' → H' t = some (.tup ((heldOf os).map V.int)) → Q (.ref t) H'
section
variable {P : Program} {w : World} {K : PySem.W.Frag} {mg : Str → Option Value} {base : Heap}
theorem c_outs_as_tuples (T : Tx w K mg) : Cal P w K mg base CX0 2 "outs_as_tuples" ["outs"] (spOutsT K) := by
  refine cal_mk T.D_outs_as_tuples T.m_outs_as_tuples sc_outs_as_tuples (fun _ _ _ _ _ _ us hl => match us, hl with | [_], _ => rfl) (fun vs H Q E h => ?_) (fun f cdv A outer s H vs Q E hr h => ?_)
  · obtain ⟨p, os, rfl, _⟩ := h
    rfl
  · obtain ⟨p, os, rfl, ⟨xs, hq, hd⟩, hl, k⟩ := h
    have hxl := dp_len hd
    refine ⟨_, ((pss_one (ps_ret (pe_callTy cr_tupOf rfl T.f_tuple (by decide +kernel) (pa_cons (pe_lc (own := [("out", 1)]) rfl sc_outs_as_tuples.nd (pi_seqA (pv 0)) (blkOk_by (N := ["outs", "out"]) (sc := defScope s_outs_as_tuples) (by decide +kernel)) (fun _ _ _ _ _ => (pg_name (i := 1) sc_outs_as_tuples.nd rfl (Or.inl rfl))) (fun _ _ _ _ _ => pts_nil) (fun _ _ _ _ _ => (pe_ifExp (pt_cmp (pc_isN (pv 1))) pe_non (pe_callTy (cr_tupOfK (K := K) rfl) rfl T.f_tuple (by decide +kernel) (pa_cons (pv 1) pa_nil))))) pa_nil))))), ?_⟩
    dsimp only [cxOf, Cx.nox]
    repeat walk_at "st"
    refine k_seqA ?_
    repeat walk_at "st"
    refine k_seqL hq (Ex.refl _) fun J G hG wk => ?_
    refine lc_data (K := K) wk os hxl.symm (by omega) (fun _ => true) dOut (fun c _ => noL_out c) hG (fun i c x H' H'' R1 R0 hc e y q1 q0 => ?_) (fun D H' ys hD e hL pr => ?_)
    · obtain ⟨rfl, y⟩ := y
      obtain ⟨c', hc', hp⟩ := dp_get hd y
      rw [hc] at hc'
      cases hc'
      refine ⟨rfl, ?_⟩
      repeat walk_at "st"
      rcases dp_out hp with ⟨rfl, rfl⟩ | ⟨g, s, t, rfl, rfl, ht⟩
      · rw [decide_eq_true (rfl : V.non = V.non)]
        repeat walk_at "st"
        exact q1 _ _ (Ex.refl _) rfl .non
      · rw [decide_eq_false (show ¬ V.ref t = V.non from fun z => nomatch z)]
        repeat walk_at "st"
        refine k_tupT (e.sqT ht) ?_
        exact q1 _ _ (Ex.refl _) rfl (.tup (e.sqT ht) (.cons (.int _) (.cons (.int _) .nil)))
    · rw [List.filter_eq_self.mpr fun _ _ => rfl] at pr
      repeat walk_at "st"
      refine k_tupL (.inl (.inl hL)) fun t H2 ht e2 h2 => ?_
      repeat walk_at "st"
      exact k _ t (e.trans e2) (.tup (.inl (.inl h2)) (DpAll_ex e2 _ _ pr))
theorem c_held_spots (T : Tx w K mg) : Cal P w K mg base CX0 2 "held_spots" ["outs"] (spHeld K) := by
  refine cal_mk T.D_held_spots T.m_held_spots sc_held_spots (fun _ _ _ _ _ _ us hl => match us, hl with | [_], _ => rfl) (fun vs H Q E h => ?_) (fun f cdv A outer s H vs Q E hr h => ?_)
  · obtain ⟨p, os, rfl, _⟩ := h
    rfl
  · obtain ⟨p, os, rfl, ⟨xs, hq, hd⟩, hl, k⟩ := h
    have hxl := dp_len hd
    refine ⟨_, ((pss_one (ps_ret (pe_callTy cr_tupOf rfl T.f_tuple (by decide +kernel) (pa_cons (pe_lc (own := [("spot", 1), ("out", 2)]) rfl sc_held_spots.nd (pi_enumS rfl T.f_enumerate (pa_cons (pv 0) pa_nil) (pk_cons pe_int pk_nil)) (blkOk_by (N := ["outs", "spot", "out"]) (sc := defScope s_held_spots) (by decide +kernel)) (fun _ _ _ _ _ => (by exact pg_tupK (K := K) (n := 2) rfl rfl (pgs_cons (pg_name (i := 1) sc_held_spots.nd rfl (Or.inl rfl)) (pgs_cons (pg_name (i := 2) sc_held_spots.nd rfl (Or.inl rfl)) pgs_nil)))) (fun _ _ _ _ _ => (pts_one (pt_cmp (pc_notN (pv 2))))) (fun _ _ _ _ _ => (pv 1))) pa_nil))))), ?_⟩
    dsimp only [cxOf, Cx.nox]
    repeat walk_at "st"
    refine k_enumS ?_
    repeat walk_at "st"
    refine k_enumSL hq (Ex.refl _) (by decide) (by decide) fun J G hG wk => ?_
    refine lc_vals wk os.zipIdx (by rw [List.length_zipIdx, hxl]) (by omega) (fun q => q.1.isSome) (fun q => V.int (((q.2 : Nat) : Int) + 1)) hG (fun i c x H' H'' R1 R0 hc e y q1 q0 => ?_) (fun D H' hD e hL => ?_)
    · obtain ⟨t0, x0, y0, rfl, ht0, rfl, ex0, ey0⟩ := y
      cases ex0
      rw [List.getElem?_zipIdx] at hc
      obtain ⟨o, ho, rfl⟩ := Option.map_eq_some_iff.mp hc
      obtain ⟨c', hc', hp⟩ := dp_get hd ey0
      rw [ho] at hc'
      cases hc'
      have e2 : Ex H' (upd H' t0 (.tup [.int (1 + ((i : Nat) : Int)), y0])) := Ex.new ht0
      have h2 : upd H' t0 (.tup [.int (1 + ((i : Nat) : Int)), y0]) t0 = some (.tup [.int (1 + ((i : Nat) : Int)), y0]) := upd_same
      generalize upd H' t0 (.tup [.int (1 + ((i : Nat) : Int)), y0]) = H2 at e2 h2
      repeat walk_at "st"
      refine ⟨rfl, ?_⟩
      repeat walk_at "st"
      rcases dp_out hp with ⟨rfl, rfl⟩ | ⟨g, s, t, rfl, rfl, ht⟩
      · rw [decide_eq_true (rfl : V.non = V.non)]
        repeat walk_at "st"
        exact q0 _ e2 rfl
      · rw [decide_eq_false (show ¬ V.ref t = V.non from fun z => nomatch z)]
        repeat walk_at "st"
        have := q1 _ e2 rfl
        have ei : (1 + ((i : Nat) : Int)) = (((0 + i : Nat) : Int) + 1) := by omega
        rw [ei]
        exact this
    · repeat walk_at "st"
      refine k_tupL (.inl (.inl hL)) fun t H2 ht e2 h2 => ?_
      repeat walk_at "st"
      refine k _ t (e.trans e2) ?_
      rw [h2]
      unfold heldOf
      rw [List.map_map]
      rfl
/-- [y for x in xs for y in x], xs a list of tuples -/
theorem lc2_rows {K : PySem.W.Frag} {H : Hp} {p : Addr} {zs : List V} {rows : List (List V)} {v0 v1 v3 : Option V} {Q : VK} (hz : SqL K H p zs) (hl : zs.length = rows.length) (hr : ∀ (i : Nat) (r : List V), rows[i]? = some r → ∃ t, zs[i]? = some (V.ref t) ∧ SqT K H t r) (h1 : rows.length ≤ 1000) (h2 : ∀ r ∈ rows, r.length ≤ 10)
    (hd : ∀ D H', H D = none → Ex H H' → H' D = some (.lst rows.flatten) → Q (.ref D) H') : tLc2 (iList K (tVar 2)) (gName 4) tYes (iTup K (tVar 4)) (gName 5) tYes (tVar 5) [4, 5] [5] [v0, v1, some (.ref p), v3, none, none] H Q := by
  have flen : ∀ i, ((rows.take i).flatten).length ≤ 10 * i := by
    intro i
    have aux : ∀ l : List (List V), (∀ r ∈ l, r.length ≤ 10) → l.flatten.length ≤ 10 * l.length := by
      intro l hl
      induction l with
      | nil => simp
      | cons r l ih =>
        have a := hl r List.mem_cons_self
        have b := ih fun r hr => hl r (List.mem_cons_of_mem _ hr)
        rw [List.flatten_cons, List.length_append, List.length_cons]
        omega
    have := aux (rows.take i) fun r hr => h2 r (List.mem_of_mem_take hr)
    rw [List.length_take] at this
    omega
  refine ⟨.ref p, rfl, p, rfl, ⟨zs, hz⟩, fun D hD => ?_⟩
  refine ⟨fun i m H' => m = rows.length - i ∧ i ≤ rows.length ∧ Ex H H' ∧ H' D = some (.lst (rows.take i).flatten), ⟨rows.length, by simp, Nat.zero_le _, Ex.new hD, by rw [List.take_zero]; exact upd_same⟩, ?_⟩
  rintro i m H' ⟨rfl, hi, e, hL⟩
  by_cases hlt : i < rows.length
  · obtain ⟨r, hrw⟩ : ∃ r, rows[i]? = some r := ⟨_, List.getElem?_eq_getElem hlt⟩
    obtain ⟨t, ht, hst⟩ := hr i r hrw
    have hz' := e.sqL hz
    have htake : rows.take (i + 1) = rows.take i ++ [r] := by rw [List.take_add_one, hrw]; rfl
    refine .inr ⟨walk_list.goes i H' (by omega) hz', fun H2 => Ex H H2 ∧ H2 D = some (.lst (rows.take (i + 1)).flatten), fun H2 ⟨a, b⟩ => ⟨rows.length - (i + 1), by omega, rfl, by omega, a, b⟩, fun x H2 y => ?_⟩
    obtain ⟨eH, y1⟩ := walk_list.yields i H' x H2 (by omega) hz' y
    subst eH
    rw [ht] at y1
    cases y1
    refine ⟨rfl, ?_⟩
    refine k_yes ?_
    rw [if_pos rfl]
    refine ⟨.ref t, rfl, t, rfl, ⟨r, e.sqT hst⟩, ?_⟩
    have hrl := h2 r (List.mem_of_getElem? hrw)
    refine ⟨fun j k H2 => k = r.length - j ∧ j ≤ r.length ∧ Ex H H2 ∧ H2 D = some (.lst ((rows.take i).flatten ++ r.take j)), ⟨r.length, by simp, Nat.zero_le _, e, by rw [List.take_zero, List.append_nil]; exact hL⟩, ?_⟩
    rintro j k H2 ⟨rfl, hj, e2, hL2⟩
    by_cases hjl : j < r.length
    · have hst2 := e2.sqT hst
      refine .inr ⟨walk_tup.goes j H2 hjl hst2, fun H3 => Ex H H3 ∧ H3 D = some (.lst ((rows.take i).flatten ++ r.take (j + 1))), fun H3 ⟨a, b⟩ => ⟨r.length - (j + 1), by omega, rfl, by omega, a, b⟩, fun x H3 y => ?_⟩
      obtain ⟨eH, y1⟩ := walk_tup.yields j H2 x H3 hjl hst2 y
      subst eH
      refine ⟨rfl, ?_⟩
      refine k_yes ?_
      rw [if_pos rfl]
      refine ⟨x, rfl, (rows.take i).flatten ++ r.take j, hL2, ?_, ?_⟩
      · have := flen i
        rw [List.length_append, List.length_take, sizeLine_eq]
        omega
      · refine ⟨ExB.old e2 hD ExB.upd, ?_⟩
        rw [upd_same, List.take_add_one, y1, List.append_assoc]
        rfl
    · have ej : j = r.length := by omega
      subst ej
      refine .inl ⟨walk_tup.stops H2 (e2.sqT hst), e2, ?_⟩
      rw [hL2, List.take_length, htake, List.flatten_append]
      simp
  · have ei : i = rows.length := by omega
    subst ei
    refine .inl ⟨?_, hd D H' hD e (by rw [hL, List.take_length])⟩
    rw [← hl]
    exact walk_list.stops H' (e.sqL hz)
theorem flat_len (os : List (Option (Int × Int))) : (os.flatMap fun o => match o with | none => [(-1 : Int), 0] | some (g, s) => [g, s]).length = 2 * os.length := by
  induction os with
  | nil => rfl
  | cons o os ih =>
    rw [List.flatMap_cons, List.length_append, ih, List.length_cons]
    cases o with
    | none => show 2 + _ = _; omega
    | some q => show 2 + _ = _; omega
def keyOf (at_ : List Int) (os : List (Option (Int × Int))) : List Int := [((at_.length : Nat) : Int)] ++ at_ ++ os.flatMap fun o => match o with | none => [-1, 0] | some (g, s) => [g, s]
def IntsIn (K : PySem.W.Frag) (H : Hp) (p : Addr) (xs : List Int) : Prop := SeqOf K H p (xs.map V.int)
def spKey (K : PySem.W.Frag) : Sp := fun vs H Q _ => ∃ (p q : Addr) (at_ : List Int) (os : List (Option (Int × Int))), vs = [.ref p, .ref q] ∧ IntsIn K H p at_ ∧ at_.length ≤ 1000 ∧ OutsIn K H q os ∧ os.length ≤ 1000 ∧ ∀ H' t, Ex H H' → H' t = some (.tup ((keyOf at_ os).map V.int)) → Q (.ref t) H'
theorem c_figure_key (T : Tx w K mg) : Cal P w K mg base CX0 2 "figure_key" ["at", "outs"] (spKey K) := by
  refine cal_mk T.D_figure_key T.m_figure_key sc_figure_key (fun _ _ _ _ _ _ us hl => match us, hl with | [_, _], _ => rfl) (fun vs H Q E h => ?_) (fun f cdv A outer s H vs Q E hr h => ?_)
  · obtain ⟨p, q, at_, os, rfl, _⟩ := h
    rfl
  · obtain ⟨p, q, at_, os, rfl, hat, hal, ⟨xs, hq, hd⟩, hl, k⟩ := h
    have hxl := dp_len hd
    refine ⟨_, ((pss_cons (ps_setLc (i := 2) (own := [("out", 3)]) rfl sc_figure_key.nd rfl rfl (sw_true rfl rfl rfl (by decide +kernel)) (pi_seqA (pv 1)) (blkOk_by (N := ["at", "outs", "pairs", "out", "pair", "number"]) (sc := defScope s_figure_key) (by decide +kernel)) (fun _ _ _ _ _ => (pg_name (i := 3) sc_figure_key.nd rfl (Or.inl rfl))) (fun _ _ _ _ _ => pts_nil) (fun _ _ _ _ _ => (pe_ifExp (pt_cmp (pc_isN (pv 3))) (pe_tup (pa_cons (pe_un un_neg pe_int) (pa_cons pe_int pa_nil))) (pv 3))))
  (pss_one (ps_ret (pe_callTy cr_tupOf rfl T.f_tuple (by decide +kernel) (pa_cons (pe_op op_cat (pe_op op_cat (pe_lst (pa_cons (pe_callB cr_len rfl T.f_len (by decide +kernel) (pa_cons (pv 0) pa_nil)) pa_nil)) (pe_callTy call_list_of rfl T.f_list (by decide +kernel) (pa_cons (pv 0) pa_nil))) (pe_lc2 (own := [("pair", 4), ("number", 5)]) (vs1 := [5]) rfl sc_figure_key.nd (pi_list (pv 2)) (blkOk_by (N := ["at", "outs", "pairs", "out", "pair", "number"]) (sc := defScope s_figure_key) (by decide +kernel)) (by decide) (fun _ _ _ _ _ => (pg_name (i := 4) sc_figure_key.nd rfl (Or.inl rfl))) (fun _ _ _ _ _ => pts_nil) (fun _ _ _ _ _ => (by exact pi_tupK (K := K) rfl (pv 4))) (fun _ _ _ _ _ => (pg_name (i := 5) sc_figure_key.nd rfl (Or.inl rfl))) (fun _ _ _ _ _ => pts_nil) (fun _ _ _ _ _ => (pv 5)))) pa_nil)))))), ?_⟩
    dsimp only [cxOf, Cx.nox]
    repeat walk_at "st"
    refine k_seqA ?_
    repeat walk_at "st"
    refine k_seqL hq (Ex.refl _) fun J G hG wk => ?_
    refine lc_rel wk (fun _ => true) (fun i y H => ∃ o t, os[i]? = some o ∧ y = V.ref t ∧ SqT K H t (match o with | none => [.int (-1), .int 0] | some (g, s) => [.int g, .int s])) (by omega) (fun i y H H' e ⟨o, t, ho, hy, ht⟩ => ⟨o, t, ho, hy, exT_sqT e ht⟩) hG (fun i x H' H'' R1 R0 hi e y q1 q0 => ?_) (fun D H1 ys hD e1 hL pr => ?_)
    · obtain ⟨rfl, y⟩ := y
      obtain ⟨o, ho, hp⟩ := dp_get hd y
      refine ⟨rfl, ?_⟩
      repeat walk_at "st"
      rcases dp_out hp with ⟨rfl, rfl⟩ | ⟨g, s, t, rfl, rfl, ht⟩
      · rw [decide_eq_true (rfl : V.non = V.non)]
        repeat walk_at "st"
        intro t H5 ht e5 h5
        exact q1 _ _ e5 rfl ⟨none, t, ho, rfl, .inl (.inl h5)⟩
      · rw [decide_eq_false (show ¬ V.ref t = V.non from fun z => nomatch z)]
        repeat walk_at "st"
        exact q1 _ _ (Ex.refl _) rfl ⟨_, t, ho, rfl, e.sqT ht⟩
    · rw [filter_true] at pr
      have yl : ys.length = os.length := by
        have := Paired.length pr
        rw [List.length_range] at this
        omega
      have hat1 : SqL K H1 p (at_.map V.int) ∨ SqT K H1 p (at_.map V.int) := hat.ex e1
      repeat walk_at "st"
      refine ⟨p, at_.map V.int, rfl, hat1, ?_⟩
      repeat walk_at "st"
      intro l2 H2 hl2 e2 h2
      repeat walk_at "st"
      have hat2 := SeqOf.ex e2 hat1
      refine ⟨p, at_.map V.int, rfl, hat2, fun l3 hl3 => ?_⟩
      have e3 : Ex H2 (upd H2 l3 (.lst (at_.map V.int))) := Ex.new hl3
      have h3 : upd H2 l3 (.lst (at_.map V.int)) l3 = some (.lst (at_.map V.int)) := upd_same
      generalize upd H2 l3 (.lst (at_.map V.int)) = H3 at e3 h3
      refine k_cat (e3.get h2) h3 (by simp only [List.length_cons, List.length_nil, List.length_map]; rw [sizeLine_eq]; omega) fun l4 H4 hl4 e4 h4 => ?_
      have e14 := e2.trans (e3.trans e4)
      refine lc2_rows (rows := os.map fun o => match o with | none => [V.int (-1), V.int 0] | some (g, s) => [V.int g, V.int s]) (.inl (.inl (e14.get hL))) (by rw [List.length_map]; exact yl) (fun i r hr => ?_) (by rw [List.length_map]; exact hl) (fun r hr => ?_) (fun D2 H5 hD2 e5 h5 => ?_)
      · rw [List.getElem?_map] at hr
        obtain ⟨o, ho, rfl⟩ := Option.map_eq_some_iff.mp hr
        obtain ⟨hil, _⟩ := List.getElem?_eq_some_iff.mp ho
        obtain ⟨y, hy, o', t, ho', hyt, hst⟩ := Paired.get' pr (i := i) (x := i) (by rw [List.getElem?_range (by omega)])
        rw [ho] at ho'
        cases ho'
        exact ⟨t, by rw [hy, hyt], e14.sqT hst⟩
      · obtain ⟨o, _, rfl⟩ := List.mem_map.mp hr
        cases o with
        | none => simp
        | some q => simp
      · have hfl : (os.map fun o => match o with | none => [V.int (-1), V.int 0] | some (g, s) => [V.int g, V.int s]).flatten = (os.flatMap fun o => match o with | none => [-1, 0] | some (g, s) => [g, s]).map V.int := by
          rw [List.map_flatMap, List.flatMap_def]
          congr 1
          refine List.map_congr_left fun o _ => ?_
          cases o <;> rfl
        have hfz := flat_len os
        rw [hfl] at h5
        refine k_cat (e5.get h4) h5 (by simp only [List.length_cons, List.length_nil, List.length_map, List.length_append]; rw [hfz, sizeLine_eq]; omega) fun l6 H6 hl6 e6 h6 => ?_
        repeat walk_at "st"
        refine k_tupL (.inl (.inl h6)) fun t H7 ht e7 h7 => ?_
        repeat walk_at "st"
        refine k _ t (e1.trans (e14.trans (e5.trans (e6.trans e7)))) ?_
        rw [h7]
        unfold keyOf
        rw [List.map_append, List.map_append, List.length_map]
        rfl
end


/-! ### figures: the questions that the constructor asks -/
theorem ix_seqK {X : Cx} {K : PySem.W.Frag} (h : X.K = K) : IxR X (rIx K) := h ▸ ix_seq
theorem k_ixQ {K : PySem.W.Frag} {H : Hp} {p : Addr} {xs : List V} {i : Int} {v : V} {Q : VK} (h : SeqOf K H p xs) (ha : atI xs i = some v) (q : Q v H) : rIx K (.ref p) (.int i) H Q := by
  rcases h with h | h
  · exact .inl ⟨p, xs, i, v, rfl, rfl, h, ha, q⟩
  · exact .inr (.inl ⟨p, xs, i, v, rfl, rfl, h, ha, q⟩)
def Asc (zs : List Str) : Prop := zs.Pairwise fun x y => x.cps.toList < y.cps.toList
def spAsc (K : PySem.W.Frag) : Sp := fun vs H Q _ => ∃ (p : Addr) (zs : List Str), vs = [.ref p] ∧ SeqOf K H p (zs.map V.str) ∧ Asc zs ∧ (∀ z ∈ zs, nameB z = true ∧ z.length ≤ 100) ∧ zs.length ≤ 1000 ∧ ∀ H', Ex H H' → Q (.bl true) H'
def spNum (K : PySem.W.Frag) : Sp := fun vs H Q _ => ∃ (p q : Addr) (at_ : List Int) (os : List (Option (Int × Int))), vs = [.ref p, .ref q] ∧ IntsIn K H p at_ ∧ at_.length ≤ 1000 ∧ OutsIn K H q os ∧ os.length ≤ 1000 ∧ Numbered at_ os ∧ ∀ H', Ex H H' → Q (.bl true) H'
def spHaveSp (K : PySem.W.Frag) : Sp := fun vs H Q _ => ∃ (n p q : Addr) (zs : List V) (at_ : List Int) (os : List (Option (Int × Int))), vs = [.ref n, .ref p, .ref q] ∧ SeqOf K H n zs ∧ IntsIn K H p at_ ∧ at_.length ≤ 1000 ∧ at_.length = zs.length ∧ OutsIn K H q os ∧ os.length ≤ 1000 ∧ (∀ a ∈ at_, 0 ≤ a ∧ a ≤ os.length) ∧ ∀ H', Ex H H' → Q (.bl true) H'
section
variable {P : Program} {w : World} {K : PySem.W.Frag} {mg : Str → Option Value} {base : Heap}
theorem c_names_ascend (T : Tx w K mg) : Cal P w K mg base CX0 3 "names_ascend" ["names"] (spAsc K) := by
  refine cal_mk T.D_names_ascend T.m_names_ascend sc_names_ascend (fun _ _ _ _ _ _ us hl => match us, hl with | [_], _ => rfl) (fun vs H Q E h => ?_) (fun f cdv A outer s H vs Q E hr h => ?_)
  · obtain ⟨p, zs, rfl, _⟩ := h
    rfl
  · obtain ⟨p, zs, rfl, hq, ha, hn, hl, k⟩ := h
    refine ⟨_, ((pss_cons (ps_for PassesOwn.never rfl (pi_enumA rfl T.f_enumerate (pa_cons (pv 0) pa_nil)) (pg_tup (n := 2) rfl (pgs_cons (pg_name (i := 1) sc_names_ascend.nd rfl (Or.inl rfl)) (pgs_cons (pg_name (i := 2) sc_names_ascend.nd rfl (Or.inl rfl)) pgs_nil))) (pss_one (ps_if (PW.pt (pw_or (pt_not (pt_val (by exact pe_cal (c_is_name T) hr (by decide) rfl pass0 (pa_cons (pv 2) pa_nil)))) (pw_or1 (PW.pt (pw_and (pt_cmpR o_gt (pv 1) pe_int (nomark _)) (pw_and1 (pt_cmpR op_ge_str (pe_ix (ix_seqK (K := K) rfl) (pv 0) (pe_op o_sub (pv 1) pe_int) (fun _ _ => rfl)) (pv 2) (nomark _)))))))) (pss_one (ps_ret pe_bl)) pss_nil)))
  (pss_one (ps_ret pe_bl)))), ?_⟩
    dsimp only [cxOf, Cx.nox]
    repeat walk_at "st"
    refine k_enumAE hq (Ex.refl _) fun J G hG wk => ?_
    refine for_it wk (fun i σ' H' => ∃ v1 v2, σ' = [some (.ref p), v1, v2] ∧ Ex H H') ⟨none, none, rfl, Ex.refl _⟩ (fun i σ' H' _ ⟨_, _, _, e⟩ => hG _ e) (fun i x σ' H' H'' hi ⟨v1, v2, es, e⟩ y => ?_) (fun σ' H' ⟨v1, v2, es, e⟩ => ?_)
    · subst es
      obtain ⟨t0, x0, y0, rfl, ht0, rfl, ex0, ey0⟩ := y
      cases ex0
      dsimp only at ey0
      rw [List.getElem?_map] at ey0
      obtain ⟨z, hz, rfl⟩ := Option.map_eq_some_iff.mp ey0
      have e3 : Ex H' (upd H' t0 (.tup [.int (i : Nat), .str z])) := Ex.new ht0
      have h3 : upd H' t0 (.tup [.int (i : Nat), .str z]) t0 = some (.tup [.int (i : Nat), .str z]) := upd_same
      generalize upd H' t0 (.tup [.int (i : Nat), .str z]) = H3 at e3 h3
      have eH := e.trans e3
      obtain ⟨n1, n2⟩ := hn z (List.mem_of_getElem? hz)
      repeat walk_at "st"
      refine ⟨z, rfl, n2, fun H4 e4 => ?_⟩
      rw [n1]
      repeat walk_at "st"
      by_cases hi0 : (0 : Int) < ((i : Nat) : Int)
      · rw [decide_eq_true hi0]
        repeat walk_at "st"
        obtain ⟨j, rfl⟩ : ∃ j, i = j + 1 := ⟨i - 1, by omega⟩
        obtain ⟨hil, _⟩ := List.getElem?_eq_some_iff.mp hz
        have hj : zs[j]? = some zs[j] := List.getElem?_eq_getElem (by omega)
        have hat : atI (zs.map V.str) (((j + 1 : Nat) : Int) - 1) = some (V.str zs[j]) := atI_of (by omega) (by
          have : (((j + 1 : Nat) : Int) - 1).toNat = j := by omega
          rw [this, List.getElem?_map, hj]; rfl)
        refine k_ixQ (SeqOf.ex (eH.trans e4) hq) hat ?_
        have hlt : (zs[j]).cps.toList < z.cps.toList := by
          have := List.pairwise_iff_getElem.mp ha j (j + 1) (by omega) hil (by omega)
          obtain ⟨_, e5⟩ := List.getElem?_eq_some_iff.mp hz
          rw [e5] at this
          exact this
        repeat walk_at "st"
        refine ⟨_, _, rfl, rfl, ?_⟩
        rw [decide_eq_true hlt]
        repeat walk_at "st"
        exact ⟨_, _, rfl, eH.trans e4⟩
      · rw [decide_eq_false hi0]
        repeat walk_at "st"
        exact ⟨_, _, rfl, eH.trans e4⟩
    · subst es
      repeat walk_at "st"
      exact k _ e
theorem c_spots_are_numbered (T : Tx w K mg) : Cal P w K mg base CX0 2 "spots_are_numbered" ["at", "outs"] (spNum K) := by
  refine cal_mk T.D_spots_are_numbered T.m_spots_are_numbered sc_spots_are_numbered (fun _ _ _ _ _ _ us hl => match us, hl with | [_, _], _ => rfl) (fun vs H Q E h => ?_) (fun f cdv A outer s H vs Q E hr h => ?_)
  · obtain ⟨p, q, at_, os, rfl, _⟩ := h
    rfl
  · obtain ⟨p, q, at_, os, rfl, hp, hal, ⟨xs, hq, hd⟩, hol, ⟨kn, kw, k0, k1, k2, k3, k4, k5, k6⟩, k⟩ := h
    have hxl := dp_len hd
    refine ⟨_, ((pss_cons (ps_set (i := 2) sc_spots_are_numbered.nd rfl (Or.inl rfl) pe_int)
  (pss_cons (ps_for PassesOwn.never rfl (pi_seqA (pv 0)) (pg_name (i := 3) sc_spots_are_numbered.nd rfl (Or.inl rfl)) (pss_cons (ps_if (pt_cmpR o_gt (pv 3) (pe_op o_add (pv 2) pe_int) (nomark _)) (pss_one (ps_ret pe_bl)) pss_nil)
  (pss_one (ps_set (i := 2) sc_spots_are_numbered.nd rfl (Or.inl rfl) (by exact pe_callB (cr_max2 rfl) rfl T.f_max (by decide +kernel) (pa_cons (pv 2) (pa_cons (pv 3) pa_nil)))))))
  (pss_cons (ps_set (i := 4) sc_spots_are_numbered.nd rfl (Or.inl rfl) pe_int)
  (pss_cons (ps_while PassesOwn.never (pt_cmpR o_lt (pv 4) (pv 2) (nomark _)) (pss_cons (ps_set (i := 5) sc_spots_are_numbered.nd rfl (Or.inl rfl) (pe_ix (ix_seqK (K := K) rfl) (pv 1) (pv 4) (fun _ _ => rfl)))
  (pss_cons (ps_if (PW.pt (pw_and (pt_cmp (pc_notN (pv 5))) (pw_and1 (pt_cmpR o_gt (pe_ix (ix_tupK (K := K) rfl) (pv 5) pe_int (fun _ _ => rfl)) (pe_op o_add (pv 2) pe_int) (nomark _))))) (pss_one (ps_ret pe_bl)) pss_nil)
  (pss_cons (ps_set (i := 2) sc_spots_are_numbered.nd rfl (Or.inl rfl) (pe_ifExp (pt_cmp (pc_isN (pv 5))) (pv 2) (by exact pe_callB (cr_max2 rfl) rfl T.f_max (by decide +kernel) (pa_cons (pv 2) (pa_cons (pe_ix (ix_tupK (K := K) rfl) (pv 5) pe_int (fun _ _ => rfl)) pa_nil)))))
  (pss_one (ps_aug (i := 4) sc_spots_are_numbered.nd rfl (Or.inl rfl) pe_int ip_add))))))
  (pss_one (ps_ret (pe_cmpR op_eq (pv 2) (by exact pe_callB (cr_lenK (K := K) rfl) rfl T.f_len (by decide +kernel) (pa_cons (pv 1) pa_nil)) (nomark _))))))))), ?_⟩
    dsimp only [cxOf, Cx.nox]
    repeat walk_at "st"
    refine k_seqA ?_
    repeat walk_at "st"
    refine k_seqF hp (Ex.refl _) fun J G hG wk => ?_
    refine for_it wk (fun i σ' H' => ∃ v3, σ' = [some (.ref p), some (.ref q), some (.int (kn i)), v3, none, none] ∧ Ex H H') ⟨none, by rw [k0]; rfl, Ex.refl _⟩ (fun i σ' H' _ ⟨_, _, e⟩ => hG _ e) (fun i x σ' H' H'' hi ⟨v3, es, e⟩ y => ?_) (fun σ' H' ⟨v3, es, e⟩ => ?_)
    · subst es
      obtain ⟨rfl, y⟩ := y
      rw [List.getElem?_map] at y
      obtain ⟨a, ha, rfl⟩ := Option.map_eq_some_iff.mp y
      obtain ⟨h1, h2⟩ := k1 i a ha
      repeat walk_at "st"
      rw [decide_eq_false (show ¬ kn i + 1 < a by omega)]
      repeat walk_at "st"
      exact ⟨_, by rw [h2]; rfl, e⟩
    · subst es
      rw [List.length_map, ← k2]
      repeat walk_at "st"
      refine ⟨fun m σ' H2 => ∃ (v : Nat) (v3 v5 : Option V), m = os.length - v ∧ v ≤ os.length ∧ σ' = [some (.ref p), some (.ref q), some (.int (kw v)), v3, some (.int v), v5] ∧ Ex H H2, ⟨os.length, 0, _, _, rfl, Nat.zero_le _, rfl, e⟩, ?_⟩
      clear e
      rintro m σ H2 ⟨v, v3, v5, rfl, hv, rfl, e⟩
      repeat walk_at "st"
      by_cases hlt : v < os.length
      · rw [decide_eq_true (k3 v hlt)]
        repeat walk_at "st"
        refine ⟨fun σ' H3 => ∃ m', m' < os.length - v ∧ ∃ (v : Nat) (v3 v5 : Option V), m' = os.length - v ∧ v ≤ os.length ∧ σ' = [some (.ref p), some (.ref q), some (.int (kw v)), v3, some (.int v), v5] ∧ Ex H H3, fun _ _ h => h, ?_⟩
        repeat walk_at "st"
        obtain ⟨o, ho⟩ : ∃ o, os[v]? = some o := ⟨_, List.getElem?_eq_getElem hlt⟩
        obtain ⟨y, hy⟩ : ∃ y, xs[v]? = some y := ⟨xs[v]'(by omega), List.getElem?_eq_getElem (by omega)⟩
        obtain ⟨o', ho', hdp⟩ := dp_get hd hy
        rw [ho] at ho'
        cases ho'
        refine k_ixQ (SeqOf.ex e hq) (atI_of (by omega) (by simpa using hy)) ?_
        repeat walk_at "st"
        have ev : ((v : Nat) : Int) + 1 = ((v + 1 : Nat) : Int) := by omega
        rcases dp_out hdp with ⟨rfl, rfl⟩ | ⟨g, s, t, rfl, rfl, ht⟩
        · rw [decide_eq_true (rfl : V.non = V.non)]
          repeat walk_at "st"
          rw [decide_eq_true (rfl : V.non = V.non)]
          repeat walk_at "st"
          refine ⟨_, rfl, _, _, rfl, rfl, ?_⟩
          exact ⟨os.length - (v + 1), by omega, v + 1, _, _, rfl, by omega, by rw [k4 v ho, ← ev]; rfl, e⟩
        · obtain ⟨h1, h2⟩ := k5 v g s ho
          have ht2 := e.sqT ht
          rw [decide_eq_false (show ¬ V.ref t = V.non from fun z => nomatch z)]
          repeat walk_at "st"
          rw [decide_eq_false (show ¬ kw v + 1 < g by omega)]
          repeat walk_at "st"
          rw [decide_eq_false (show ¬ V.ref t = V.non from fun z => nomatch z)]
          repeat walk_at "st"
          refine ⟨_, rfl, _, _, rfl, rfl, ?_⟩
          exact ⟨os.length - (v + 1), by omega, v + 1, _, _, rfl, by omega, by rw [h2, ← ev]; rfl, e⟩
      · have ev : v = os.length := by omega
        subst ev
        rw [decide_eq_false (show ¬ ((os.length : Nat) : Int) < kw os.length by rw [k6]; omega)]
        repeat walk_at "st"
        refine ⟨q, xs, rfl, SeqOf.ex e hq, ?_⟩
        rw [hxl]
        repeat walk_at "st"
        rw [k6, decide_eq_true rfl]
        exact k _ e
end


/-! ### figures: the questions, further -/
section
variable {P : Program} {w : World} {K : PySem.W.Frag} {mg : Str → Option Value} {base : Heap}
theorem c_names_have_spots (T : Tx w K mg) : Cal P w K mg base CX0 2 "names_have_spots" ["names", "at", "outs"] (spHaveSp K) := by
  refine cal_mk T.D_names_have_spots T.m_names_have_spots sc_names_have_spots (fun _ _ _ _ _ _ us hl => match us, hl with | [_, _, _], _ => rfl) (fun vs H Q E h => ?_) (fun f cdv A outer s H vs Q E hr h => ?_)
  · obtain ⟨n, p, q, zs, at_, os, rfl, _⟩ := h
    rfl
  · obtain ⟨n, p, q, zs, at_, os, rfl, hn, hp, hal, hll, ⟨xs, hq, hd⟩, hol, hb, k⟩ := h
    have hxl := dp_len hd
    have hn1 : SqL K H n zs ∨ SqT K H n zs := hn
    have hp1 : SqL K H p (at_.map V.int) ∨ SqT K H p (at_.map V.int) := hp
    refine ⟨_, ((pss_one (ps_ret (pe_and (pe_cmpR op_eq (pe_callB cr_len rfl T.f_len (by decide +kernel) (pa_cons (pv 1) pa_nil)) (pe_callB cr_len rfl T.f_len (by decide +kernel) (pa_cons (pv 0) pa_nil)) (nomark _)) (pe_one (pe_callB (cr_all rfl) rfl T.f_all (by decide +kernel) (pa_cons (pe_lc (own := [("spot", 3)]) rfl sc_names_have_spots.nd (pi_seqA (pv 1)) (blkOk_by (N := ["names", "at", "outs", "spot"]) (sc := defScope s_names_have_spots) (by decide +kernel)) (fun _ _ _ _ _ => (pg_name (i := 3) sc_names_have_spots.nd rfl (Or.inl rfl))) (fun _ _ _ _ _ => pts_nil) (fun _ _ _ _ _ => (pe_chain o_le o_le pe_int (pv 3) (pe_callB (cr_lenK (K := K) rfl) rfl T.f_len (by decide +kernel) (pa_cons (pv 2) pa_nil))))) pa_nil))))))), ?_⟩
    dsimp only [cxOf, Cx.nox]
    repeat walk_at "st"
    refine ⟨p, _, rfl, hp1, ?_⟩
    repeat walk_at "st"
    refine ⟨n, _, rfl, hn1, ?_⟩
    rw [List.length_map, hll]
    repeat walk_at "st"
    rw [decide_eq_true rfl]
    repeat walk_at "st"
    refine k_seqA ?_
    repeat walk_at "st"
    refine k_seqL hp (Ex.refl _) fun J G hG wk => ?_
    refine lc_vals wk at_ (by rw [List.length_map]) (by rw [List.length_map]; omega) (fun _ => true) (fun _ => V.bl true) hG (fun i a x H' H'' R1 R0 ha e y q1 q0 => ?_) (fun D H' hD e hL => ?_)
    · obtain ⟨rfl, y⟩ := y
      rw [List.getElem?_map, ha] at y
      cases y
      obtain ⟨h1, h2⟩ := hb a (List.mem_of_getElem? ha)
      have hq1 : SqL K H'' q xs ∨ SqT K H'' q xs := SeqOf.ex e hq
      refine ⟨rfl, ?_⟩
      repeat walk_at "st"
      rw [decide_eq_true h1]
      repeat walk_at "st"
      refine ⟨q, _, rfl, hq1, ?_⟩
      rw [hxl]
      repeat walk_at "st"
      rw [decide_eq_true h2]
      exact q1 _ (Ex.refl _) rfl
    · repeat walk_at "st"
      refine ⟨D, at_.map fun _ => true, rfl, Or.inl (Or.inl ?_), ?_⟩
      · rw [hL, List.filter_eq_self.mpr fun _ _ => rfl, List.map_map]
        rfl
      · rw [show (at_.map fun _ => true).all id = true from by rw [List.all_map]; simp]
        repeat walk_at "st"
        exact k _ e
end


/-! ### figures: where the segments lead, plain spots -/
def into (os : List (Option (Int × Int))) (a : Int) : List Int := os.filterMap fun x => match x with | some (g, t) => if g = a then some t else none | none => none
structure NoPlain (at_ : List Int) (os : List (Option (Int × Int))) : Prop where
  np : ∀ (i : Nat) (g s : Int), os[i]? = some (some (g, s)) → ((i : Nat) : Int) + 1 ∉ at_ → into os (((i : Nat) : Int) + 1) ≠ [s]
theorem held_get {os : List (Option (Int × Int))} {i : Nat} {z : Int} (h : (heldOf os)[i]? = some z) : ∃ (j : Nat) (g s : Int), os[j]? = some (some (g, s)) ∧ z = ((j : Nat) : Int) + 1 := by
  have hm := List.mem_of_getElem? h
  unfold heldOf at hm
  obtain ⟨q, hq, rfl⟩ := List.mem_map.mp hm
  obtain ⟨h1, h2⟩ := List.mem_filter.mp hq
  obtain ⟨o, j⟩ := q
  have h3 := List.mem_zipIdx_iff_getElem?.mp h1
  cases o with
  | none => cases h2
  | some p => exact ⟨j, p.1, p.2, h3, rfl⟩
theorem into_eq (os : List (Option (Int × Int))) (a : Int) : ((os.filter (·.isSome)).filter fun o => match o with | some (g, _) => decide (g = a) | none => false).map (fun o => match o with | some (_, s) => V.int s | none => V.non) = (into os a).map V.int := by
  induction os with
  | nil => rfl
  | cons o os ih =>
    cases o with
    | none =>
      rw [List.filter_cons_of_neg (by simp)]
      unfold into
      rw [List.filterMap_cons_none rfl]
      exact ih
    | some q =>
      obtain ⟨g, s⟩ := q
      rw [List.filter_cons_of_pos rfl]
      by_cases e : g = a
      · rw [List.filter_cons_of_pos (by simp [e])]
        unfold into
        rw [List.filterMap_cons_some (b := s) (by simp [e])]
        simp only [List.map_cons]
        exact congrArg _ ih
      · rw [List.filter_cons_of_neg (by simp [e])]
        unfold into
        rw [List.filterMap_cons_none (by simp [e])]
        exact ih
theorem into_len (os : List (Option (Int × Int))) (a : Int) : (into os a).length ≤ os.length := List.length_filterMap_le _ _
theorem eqv_intsA (xs ys : List Int) : PyData.eqvAll (xs.map PyData.int) (ys.map PyData.int) = decide (xs = ys) := by
  induction xs generalizing ys with
  | nil => cases ys <;> simp [PyData.eqvAll]
  | cons x xs ih =>
    cases ys with
    | nil => simp [PyData.eqvAll]
    | cons y ys =>
      rw [List.map_cons, List.map_cons, PyData.eqvAll, ih]
      by_cases h1 : x = y <;> by_cases h2 : xs = ys <;> simp [PyData.eqv, h1, h2]
theorem lay_intsA (xs : List Int) : PyData.canLayAll0 (xs.map PyData.int) = true ∧ PyData.depthAll (xs.map PyData.int) = 0 := by
  induction xs with
  | nil => simp [PyData.canLayAll0, PyData.depthAll]
  | cons x xs ih => simp [PyData.canLayAll0, PyData.canLay0, PyData.depthAll, PyData.depth, ih]
theorem shp_intsL (xs : List Int) : SeqAt.shaped (.list (xs.map PyData.int)) = true := by
  obtain ⟨h1, h2⟩ := lay_intsA xs
  unfold SeqAt.shaped
  have h3 : (PyData.list (xs.map PyData.int)).depth ≤ 64 := by
    rw [PyData.depth, h2]
    omega
  have h4 : (PyData.list (xs.map PyData.int)).canLay0 = true := by
    rw [PyData.canLay0]
    exact h1
  rw [h4, decide_eq_true h3]
  rfl
theorem shp_intsT (xs : List Int) : SeqAt.shaped (.tuple (xs.map PyData.int)) = true := by
  obtain ⟨h1, h2⟩ := lay_intsA xs
  unfold SeqAt.shaped
  have h3 : (PyData.tuple (xs.map PyData.int)).depth ≤ 64 := by
    rw [PyData.depth, h2]
    omega
  have h4 : (PyData.tuple (xs.map PyData.int)).canLay0 = true := by
    rw [PyData.canLay0]
    exact h1
  rw [h4, decide_eq_true h3]
  rfl
theorem k_eqIL {K : PySem.W.Frag} {H : Hp} {Q : VK} {a b : Addr} {xs ys : List Int} (h1 : SqL K H a (xs.map V.int)) (h2 : SqL K H b (ys.map V.int)) (q : Q (.bl (decide (xs = ys))) H) : rEqD K (.ref a) (.ref b) H Q :=
  ⟨.list (xs.map PyData.int), .list (ys.map PyData.int), .lst h1 (dp_intsA xs), .lst h2 (dp_intsA ys), shp_intsL xs, shp_intsL ys, by rw [PyData.eqv, eqv_intsA]; exact q⟩
theorem k_eqIT {K : PySem.W.Frag} {H : Hp} {Q : VK} {a b : Addr} {xs ys : List Int} (h1 : SqT K H a (xs.map V.int)) (h2 : SqT K H b (ys.map V.int)) (q : Q (.bl (decide (xs = ys))) H) : rEqD K (.ref a) (.ref b) H Q :=
  ⟨.tuple (xs.map PyData.int), .tuple (ys.map PyData.int), .tup h1 (dp_intsA xs), .tup h2 (dp_intsA ys), shp_intsT xs, shp_intsT ys, by rw [PyData.eqv, eqv_intsA]; exact q⟩
def spLead (K : PySem.W.Frag) : Sp := fun vs H Q _ => ∃ (q : Addr) (os : List (Option (Int × Int))), vs = [.ref q] ∧ OutsIn K H q os ∧ os.length ≤ 1000 ∧ (∀ g s, some (g, s) ∈ os → (0 ≤ g ∧ g ≤ os.length) ∧ 1 ≤ s ∧ s ≤ 12) ∧ ∀ H', Ex H H' → Q (.bl true) H'
def spHasP (K : PySem.W.Frag) : Sp := fun vs H Q _ => ∃ (p q : Addr) (at_ : List Int) (os : List (Option (Int × Int))), vs = [.ref p, .ref q] ∧ IntsIn K H p at_ ∧ at_.length ≤ 1000 ∧ OutsIn K H q os ∧ os.length ≤ 1000 ∧ NoPlain at_ os ∧ ∀ H', Ex H H' → Q (.bl false) H'
section
variable {P : Program} {w : World} {K : PySem.W.Frag} {mg : Str → Option Value} {base : Heap}
theorem c_outs_lead_to_spots (T : Tx w K mg) : Cal P w K mg base CX0 2 "outs_lead_to_spots" ["outs"] (spLead K) := by
  refine cal_mk T.D_outs_lead_to_spots T.m_outs_lead_to_spots sc_outs_lead_to_spots (fun _ _ _ _ _ _ us hl => match us, hl with | [_], _ => rfl) (fun vs H Q E h => ?_) (fun f cdv A outer s H vs Q E hr h => ?_)
  · obtain ⟨p, os, rfl, _⟩ := h
    rfl
  · obtain ⟨p, os, rfl, ⟨xs, hq, hd⟩, hl, hb, k⟩ := h
    have hxl := dp_len hd
    refine ⟨_, ((pss_cons (ps_setLc (i := 1) (own := [("out", 2)]) rfl sc_outs_lead_to_spots.nd rfl rfl (sw_true rfl rfl rfl (by decide +kernel)) (pi_seqA (pv 0)) (blkOk_by (N := ["outs", "pairs", "out", "goal", "share"]) (sc := defScope s_outs_lead_to_spots) (by decide +kernel)) (fun _ _ _ _ _ => (pg_name (i := 2) sc_outs_lead_to_spots.nd rfl (Or.inl rfl))) (fun _ _ _ _ _ => (pts_one (pt_cmp (pc_notN (pv 2))))) (fun _ _ _ _ _ => (pv 2)))
  (pss_one (ps_ret (pe_callB (cr_all rfl) rfl T.f_all (by decide +kernel) (pa_cons (pe_lc (own := [("goal", 3), ("share", 4)]) rfl sc_outs_lead_to_spots.nd (pi_list (pv 1)) (blkOk_by (N := ["outs", "pairs", "out", "goal", "share"]) (sc := defScope s_outs_lead_to_spots) (by decide +kernel)) (fun _ _ _ _ _ => (by exact pg_tupK (K := K) (n := 2) rfl rfl (pgs_cons (pg_name (i := 3) sc_outs_lead_to_spots.nd rfl (Or.inl rfl)) (pgs_cons (pg_name (i := 4) sc_outs_lead_to_spots.nd rfl (Or.inl rfl)) pgs_nil)))) (fun _ _ _ _ _ => pts_nil) (fun _ _ _ _ _ => (pe_and (pe_chain o_le o_le pe_int (pv 3) (pe_callB (cr_lenK (K := K) rfl) rfl T.f_len (by decide +kernel) (pa_cons (pv 0) pa_nil))) (pe_one (pe_chain o_le o_le pe_int (pv 4) (by exact C8.pe_gc rfl T.g_WHOLE)))))) pa_nil)))))), ?_⟩
    dsimp only [cxOf, Cx.nox]
    repeat walk_at "st"
    refine k_seqA ?_
    repeat walk_at "st"
    refine k_seqL hq (Ex.refl _) fun J G hG wk => ?_
    refine lc_data (K := K) wk os hxl.symm (by omega) (·.isSome) dOut (fun c _ => noL_out c) hG (fun i c x H' H'' R1 R0 hc e y q1 q0 => ?_) (fun D H1 ys hD e1 hL pr => ?_)
    · obtain ⟨rfl, y⟩ := y
      obtain ⟨c', hc', hp⟩ := dp_get hd y
      rw [hc] at hc'
      cases hc'
      refine ⟨rfl, ?_⟩
      repeat walk_at "st"
      rcases dp_out hp with ⟨rfl, rfl⟩ | ⟨g, s, t, rfl, rfl, ht⟩
      · rw [decide_eq_true (rfl : V.non = V.non)]
        repeat walk_at "st"
        exact q0 _ (Ex.refl _) rfl
      · rw [decide_eq_false (show ¬ V.ref t = V.non from fun z => nomatch z)]
        repeat walk_at "st"
        exact q1 _ _ (Ex.refl _) rfl (.tup (e.sqT ht) (.cons (.int _) (.cons (.int _) .nil)))
    · have hyl := dp_len pr
      have hfl := List.length_filter_le (fun o : Option (Int × Int) => o.isSome) os
      repeat walk_at "st"
      refine lc_vals (walk_list (xs := ys)) (os.filter (·.isSome)) hyl.symm (by omega) (fun _ => true) (fun _ => V.bl true) (fun H' e => .inl (.inl (e.get hL))) (fun i o x H' H'' R1 R0 ho e y q1 q0 => ?_) (fun D2 H2 hD2 e2 hL2 => ?_)
      · obtain ⟨rfl, y⟩ := y
        obtain ⟨c', hc', hp⟩ := dp_get pr y
        rw [ho] at hc'
        cases hc'
        obtain ⟨hm1, hm2⟩ := List.mem_filter.mp (List.mem_of_getElem? ho)
        rcases dp_out hp with ⟨rfl, rfl⟩ | ⟨g, s, t, rfl, rfl, ht⟩
        · cases hm2
        obtain ⟨⟨b1, b2⟩, b3, b4⟩ := hb g s hm1
        have ht2 := e.sqT ht
        have hq2 : SqL K H'' p xs ∨ SqT K H'' p xs := SeqOf.ex (e1.trans e) hq
        repeat walk_at "st"
        refine ⟨rfl, ?_⟩
        repeat walk_at "st"
        rw [decide_eq_true b1]
        repeat walk_at "st"
        refine ⟨p, _, rfl, hq2, ?_⟩
        rw [hxl]
        repeat walk_at "st"
        rw [decide_eq_true b2]
        repeat walk_at "st"
        rw [decide_eq_true b3]
        repeat walk_at "st"
        rw [decide_eq_true (show s ≤ 12 from b4)]
        exact q1 _ (Ex.refl _) rfl
      · repeat walk_at "st"
        refine ⟨D2, (os.filter (·.isSome)).map fun _ => true, rfl, Or.inl (Or.inl ?_), ?_⟩
        · rw [hL2, List.filter_eq_self.mpr fun _ _ => rfl, List.map_map]
          rfl
        · rw [show ((os.filter (·.isSome)).map fun _ => true).all id = true from by rw [List.all_map]; simp]
          exact k _ (e1.trans e2)
theorem c_has_plain_spot (T : Tx w K mg) : Cal P w K mg base CX0 3 "has_plain_spot" ["at", "outs"] (spHasP K) := by
  refine cal_mk T.D_has_plain_spot T.m_has_plain_spot sc_has_plain_spot (fun _ _ _ _ _ _ us hl => match us, hl with | [_, _], _ => rfl) (fun vs H Q E h => ?_) (fun f cdv A outer s H vs Q E hr h => ?_)
  · obtain ⟨p, q, at_, os, rfl, _⟩ := h
    rfl
  · obtain ⟨p, q, at_, os, rfl, hp, hal, ho, hl, np, k⟩ := h
    obtain ⟨xs, hq, hd⟩ := id ho
    have hxl := dp_len hd
    refine ⟨_, ((pss_cons (ps_setLc (i := 2) (own := [("out", 3)]) rfl sc_has_plain_spot.nd rfl rfl (sw_true rfl rfl rfl (by decide +kernel)) (pi_seqA (pv 1)) (blkOk_by (N := ["at", "outs", "pairs", "out", "spot", "shares", "goal", "share"]) (sc := defScope s_has_plain_spot) (by decide +kernel)) (fun _ _ _ _ _ => (pg_name (i := 3) sc_has_plain_spot.nd rfl (Or.inl rfl))) (fun _ _ _ _ _ => (pts_one (pt_cmp (pc_notN (pv 3))))) (fun _ _ _ _ _ => (pv 3)))
  (pss_cons (ps_for PassesOwn.never rfl (pi_tup (by exact pe_cal (c_held_spots T) hr (by decide) rfl pass0 (pa_cons (pv 1) pa_nil))) (pg_name (i := 4) sc_has_plain_spot.nd rfl (Or.inr rfl)) (pss_cons (ps_setLc (i := 5) (own := [("goal", 6), ("share", 7)]) rfl sc_has_plain_spot.nd rfl rfl (sw_true rfl rfl rfl (by decide +kernel)) (pi_list (pv 2)) (blkOk_by (N := ["at", "outs", "pairs", "out", "spot", "shares", "goal", "share"]) (sc := defScope s_has_plain_spot) (by decide +kernel)) (fun _ _ _ _ _ => (by exact pg_tupK (K := K) (n := 2) rfl rfl (pgs_cons (pg_name (i := 6) sc_has_plain_spot.nd rfl (Or.inl rfl)) (pgs_cons (pg_name (i := 7) sc_has_plain_spot.nd rfl (Or.inl rfl)) pgs_nil)))) (fun _ _ _ _ _ => (pts_one (pt_cmpR op_eq (pv 6) (pv 4) (nomark _)))) (fun _ _ _ _ _ => (pv 7)))
  (pss_one (ps_if (PW.pt (pw_and (pt_cmpR op_notIn_seq (pv 4) (pv 0) rfl) (pw_and1 (pt_cmpR (op_eqD (hu64 hr)) (pv 5) (pe_lst (pa_cons (pe_ix (ix_tupK (K := K) rfl) (pe_ix (ix_seqK (K := K) rfl) (pv 1) (pe_op o_sub (pv 4) pe_int) (fun _ _ => rfl)) pe_int (fun _ _ => rfl)) pa_nil)) (nomark _))))) (pss_one (ps_ret pe_bl)) pss_nil))))
  (pss_one (ps_ret pe_bl))))), ?_⟩
    dsimp only [cxOf, Cx.nox]
    repeat walk_at "st"
    refine k_seqA ?_
    repeat walk_at "st"
    refine k_seqL hq (Ex.refl _) fun J G hG wk => ?_
    refine lc_data (K := K) wk os hxl.symm (by omega) (·.isSome) dOut (fun c _ => noL_out c) hG (fun i c x H' H'' R1 R0 hc e y q1 q0 => ?_) (fun D H1 ys hD e1 hL pr => ?_)
    · obtain ⟨rfl, y⟩ := y
      obtain ⟨c', hc', hp⟩ := dp_get hd y
      rw [hc] at hc'
      cases hc'
      refine ⟨rfl, ?_⟩
      repeat walk_at "st"
      rcases dp_out hp with ⟨rfl, rfl⟩ | ⟨g, s, t, rfl, rfl, ht⟩
      · rw [decide_eq_true (rfl : V.non = V.non)]
        repeat walk_at "st"
        exact q0 _ (Ex.refl _) rfl
      · rw [decide_eq_false (show ¬ V.ref t = V.non from fun z => nomatch z)]
        repeat walk_at "st"
        exact q1 _ _ (Ex.refl _) rfl (.tup (e.sqT ht) (.cons (.int _) (.cons (.int _) .nil)))
    · have hyl := dp_len pr
      have hfl := List.length_filter_le (fun o : Option (Int × Int) => o.isSome) os
      repeat walk_at "st"
      refine ⟨q, os, rfl, ho.ex e1, hl, fun H2 th e2 h2 => ?_⟩
      have e02 := e1.trans e2
      have hL2 := e2.get hL
      have h2' : SqT K H2 th ((heldOf os).map V.int) := .inl (.inl h2)
      repeat walk_at "st"
      refine for_it (walk_tup (xs := (heldOf os).map V.int)) (fun i σ' H' => ∃ v4 v5, σ' = [some (.ref p), some (.ref q), some (.ref D), none, v4, v5, none, none] ∧ Ex H2 H') ⟨none, none, rfl, Ex.refl _⟩ (fun i σ' H' _ ⟨_, _, _, e⟩ => e.sqT h2') (fun i x σ' H' H'' hi ⟨v4, v5, es, e⟩ y => ?_) (fun σ' H' ⟨v4, v5, es, e⟩ => ?_)
      · subst es
        obtain ⟨rfl, y⟩ := y
        rw [List.getElem?_map] at y
        obtain ⟨z, hz, rfl⟩ := Option.map_eq_some_iff.mp y
        obtain ⟨j, g, s, hj, rfl⟩ := held_get hz
        have e0 := e02.trans e
        have hL3 := e.get hL2
        repeat walk_at "st"
        refine lc_vals (walk_list (xs := ys)) (os.filter (·.isSome)) hyl.symm (by omega) (fun o => match o with | some (g, _) => decide (g = ((j : Nat) : Int) + 1) | none => false) (fun o => match o with | some (_, s) => V.int s | none => V.non) (fun H' e => .inl (.inl (e.get hL3))) (fun i o x H4 H5 R1 R0 ho e4 y q1 q0 => ?_) (fun D2 H3 hD2 e3 hL4 => ?_)
        · obtain ⟨rfl, y⟩ := y
          obtain ⟨c', hc', hp⟩ := dp_get pr y
          rw [ho] at hc'
          cases hc'
          obtain ⟨hm1, hm2⟩ := List.mem_filter.mp (List.mem_of_getElem? ho)
          rcases dp_out hp with ⟨rfl, rfl⟩ | ⟨g, s, t, rfl, rfl, ht⟩
          · cases hm2
          have ht2 := (e2.trans (e.trans e4)).sqT ht
          repeat walk_at "st"
          refine ⟨rfl, ?_⟩
          repeat walk_at "st"
          by_cases hg : g = ((j : Nat) : Int) + 1
          · rw [decide_eq_true (show V.int g = V.int (((j : Nat) : Int) + 1) by rw [hg])]
            repeat walk_at "st"
            exact q1 _ (Ex.refl _) (decide_eq_true hg)
          · rw [decide_eq_false (show ¬ V.int g = V.int (((j : Nat) : Int) + 1) from fun z => hg (V.int.inj z))]
            repeat walk_at "st"
            exact q0 _ (Ex.refl _) (decide_eq_false hg)
        · rw [into_eq] at hL4
          have e5 := e0.trans e3
          have fin : ∀ H6, Ex H3 H6 → ∃ v4 v5, [some (V.ref p), some (.ref q), some (.ref D), none, some (.int (((j : Nat) : Int) + 1)), some (.ref D2), none, none] = [some (V.ref p), some (.ref q), some (.ref D), none, v4, v5, none, none] ∧ Ex H2 H6 := fun H6 e6 => ⟨_, _, rfl, e.trans (e3.trans e6)⟩
          have hp5 : SqL K H3 p (at_.map V.int) ∨ SqT K H3 p (at_.map V.int) := SeqOf.ex e5 hp
          repeat walk_at "st"
          refine k_in hp5 rfl (by simp [flatV]) ?_
          rw [if_pos rfl, inV_int]
          by_cases hin : ((j : Nat) : Int) + 1 ∈ at_
          · rw [decide_eq_true hin]
            repeat walk_at "st"
            exact fin _ (Ex.refl _)
          · rw [decide_eq_false hin]
            repeat walk_at "st"
            obtain ⟨y, hy⟩ : ∃ y, xs[j]? = some y := ⟨xs[j]'(by rw [hxl]; exact (List.getElem?_eq_some_iff.mp hj).1), List.getElem?_eq_getElem _⟩
            obtain ⟨o', ho', hdp⟩ := dp_get hd hy
            rw [hj] at ho'
            cases ho'
            rcases dp_out hdp with ⟨hn, _⟩ | ⟨g', s', t, hgs, rfl, ht⟩
            · cases hn
            cases hgs
            have ht5 := e5.sqT ht
            refine k_ixQ (SeqOf.ex e5 hq) (atI_of (i := ((j : Nat) : Int) + 1 - 1) (by omega) (by rw [show (((j : Nat) : Int) + 1 - 1).toNat = j by omega]; exact hy)) ?_
            repeat walk_at "st"
            intro D3 H6 hD3 e6 hL6
            refine k_eqIL (xs := into os (((j : Nat) : Int) + 1)) (ys := [s]) (.inl (.inl (e6.get hL4))) (.inl (.inl hL6)) ?_
            rw [decide_eq_false (np.np j g s hj hin)]
            repeat walk_at "st"
            exact fin _ e6
      · subst es
        repeat walk_at "st"
        exact k _ (e02.trans e)
end


/-! ### Figure(names, at, outs) -/
abbrev fC (K : PySem.W.Frag) : Addr := He.ga K "Figure"
def gf (tn ta to th tk : Addr) : List (Str × V) := [("names", .ref tn), ("at", .ref ta), ("outs", .ref to), ("held", .ref th), ("key", .ref tk)]
theorem putF_ne {f g : Str} {v y : V} {r : List (Str × V)} (h : g ≠ f) : putF f v ((g, y) :: r) = (g, y) :: putF f v r := by
  show (if g = f then _ else _) = _
  rw [if_neg h]
theorem putF_eq {f : Str} {v y : V} {r : List (Str × V)} : putF f v ((f, y) :: r) = (f, v) :: r := by
  show (if f = f then _ else _) = _
  rw [if_pos rfl]
def gf1 (tn : Addr) : List (Str × V) := [("names", .ref tn)]
def gf2 (tn ta : Addr) : List (Str × V) := [("names", .ref tn), ("at", .ref ta)]
def gf3 (tn ta to : Addr) : List (Str × V) := [("names", .ref tn), ("at", .ref ta), ("outs", .ref to)]
def gf4 (tn ta to th : Addr) : List (Str × V) := [("names", .ref tn), ("at", .ref ta), ("outs", .ref to), ("held", .ref th)]
theorem gf_1 (tn : Addr) : putF "names" (.ref tn) [] = gf1 tn := rfl
theorem gf_2 (tn ta : Addr) : putF "at" (.ref ta) (gf1 tn) = gf2 tn ta := by
  unfold gf1
  rw [putF_ne (by decide +kernel)]
  rfl
theorem gf_3 (tn ta to : Addr) : putF "outs" (.ref to) (gf2 tn ta) = gf3 tn ta to := by
  unfold gf2
  rw [putF_ne (by decide +kernel), putF_ne (by decide +kernel)]
  rfl
theorem gf_4 (tn ta to th : Addr) : putF "held" (.ref th) (gf3 tn ta to) = gf4 tn ta to th := by
  unfold gf3
  rw [putF_ne (by decide +kernel), putF_ne (by decide +kernel), putF_ne (by decide +kernel)]
  rfl
theorem gf_5 (tn ta to th tk : Addr) : putF "key" (.ref tk) (gf4 tn ta to th) = gf tn ta to th tk := by
  unfold gf4
  rw [putF_ne (by decide +kernel), putF_ne (by decide +kernel), putF_ne (by decide +kernel), putF_ne (by decide +kernel)]
  rfl
theorem gf_n (tn ta to th tk t : Addr) : putF "names" (.ref t) (gf tn ta to th tk) = gf t ta to th tk := by
  unfold gf
  rw [putF_eq]
theorem gf_a (tn ta to th tk t : Addr) : putF "at" (.ref t) (gf tn ta to th tk) = gf tn t to th tk := by
  unfold gf
  rw [putF_ne (by decide +kernel), putF_eq]
theorem gf_o (tn ta to th tk t : Addr) : putF "outs" (.ref t) (gf tn ta to th tk) = gf tn ta t th tk := by
  unfold gf
  rw [putF_ne (by decide +kernel), putF_ne (by decide +kernel), putF_eq]
theorem gf_h (tn ta to th tk t : Addr) : putF "held" (.ref t) (gf tn ta to th tk) = gf tn ta to t tk := by
  unfold gf
  rw [putF_ne (by decide +kernel), putF_ne (by decide +kernel), putF_ne (by decide +kernel), putF_eq]
theorem gf_k (tn ta to th tk t : Addr) : putF "key" (.ref t) (gf tn ta to th tk) = gf tn ta to th t := by
  unfold gf
  rw [putF_ne (by decide +kernel), putF_ne (by decide +kernel), putF_ne (by decide +kernel), putF_ne (by decide +kernel), putF_eq]
section
variable (tn ta to th tk : Addr)
theorem gl_names : (gf tn ta to th tk).lookup ("names" : Str) = some (.ref tn) := by with_unfolding_all rfl
theorem gl_at : (gf tn ta to th tk).lookup ("at" : Str) = some (.ref ta) := by with_unfolding_all rfl
theorem gl_outs : (gf tn ta to th tk).lookup ("outs" : Str) = some (.ref to) := by with_unfolding_all rfl
theorem gl_held : (gf tn ta to th tk).lookup ("held" : Str) = some (.ref th) := by with_unfolding_all rfl
theorem gl_key : (gf tn ta to th tk).lookup ("key" : Str) = some (.ref tk) := by with_unfolding_all rfl
theorem gl_spot : (gf tn ta to th tk).lookup ("spot" : Str) = none := by with_unfolding_all rfl
end
structure FigA (K : PySem.W.Frag) (H : Hp) (p : Addr) (zs : List Str) (at_ : List Int) (os : List (Option (Int × Int))) (dx tn ta to th tk : Addr) : Prop where
  ins : H p = some (.ins (fC K) dx (gf tn ta to th tk))
  nms : SqT K H tn (zs.map V.str)
  ats : SqT K H ta (at_.map V.int)
  out : Dp K H (.ref to) (dOuts os)
  hel : SqT K H th ((heldOf os).map V.int)
  key : SqT K H tk ((keyOf at_ os).map V.int)
  lz : zs.length ≤ 20
  la : at_.length = zs.length
  lo : os.length ≤ 1000
  sn : ∀ z ∈ zs, PyData.strOk z = true
def FigAt (K : PySem.W.Frag) (H : Hp) (p : Addr) (zs : List Str) (at_ : List Int) (os : List (Option (Int × Int))) : Prop := ∃ dx tn ta to th tk, FigA K H p zs at_ os dx tn ta to th tk
theorem FigA.ex {K : PySem.W.Frag} {H H' : Hp} (e : Ex H H') {p : Addr} {zs : List Str} {at_ : List Int} {os : List (Option (Int × Int))} {dx tn ta to th tk : Addr} (h : FigA K H p zs at_ os dx tn ta to th tk) : FigA K H' p zs at_ os dx tn ta to th tk :=
  ⟨e _ _ h.ins, e.sqT h.nms, e.sqT h.ats, Dp_ex e _ _ h.out, e.sqT h.hel, e.sqT h.key, h.lz, h.la, h.lo, h.sn⟩
theorem FigAt.ex {K : PySem.W.Frag} {H H' : Hp} (e : Ex H H') {p : Addr} {zs : List Str} {at_ : List Int} {os : List (Option (Int × Int))} (h : FigAt K H p zs at_ os) : FigAt K H' p zs at_ os :=
  let ⟨dx, tn, ta, to, th, tk, a⟩ := h; ⟨dx, tn, ta, to, th, tk, a.ex e⟩
theorem k_tupQ {K : PySem.W.Frag} {H : Hp} {p : Addr} {xs : List V} {Q : VK} (h : SeqOf K H p xs) (q : ∀ t H1, Ex H H1 → SqT K H1 t xs → Q (.ref t) H1) : rTupOf K [.ref p] H Q := by
  rcases h with h | h
  · exact k_tupL h fun l H1 _ e h1 => q l H1 e (.inl (.inl h1))
  · exact k_tupT h (q p H (Ex.refl _) h)
section
variable {K : PySem.W.Frag} {H H' : Hp} {p C dx : Addr} {fs : List (Str × V)}
theorem SeqOf.xb {a : Addr} {xs : List V} (b : ExB p H H') (hp : H p = some (.ins C dx fs)) (h : SeqOf K H a xs) : SeqOf K H' a xs := h.elim (fun h => .inl (b.sqL hp h)) fun h => .inr (b.sqT hp h)
theorem OutsIn.xb {a : Addr} {os : List (Option (Int × Int))} (b : ExB p H H') (hp : H p = some (.ins C dx fs)) (h : OutsIn K H a os) : OutsIn K H' a os := let ⟨xs, a, c⟩ := h; ⟨xs, a.xb b hp, DpAll_exB b hp _ _ c⟩
end
structure FigOk (zs : List Str) (at_ : List Int) (os : List (Option (Int × Int))) : Prop where
  asc : Asc zs
  nm : ∀ z ∈ zs, nameB z = true ∧ z.length ≤ 100
  sn : ∀ z ∈ zs, PyData.strOk z = true
  lz : zs.length ≤ 20
  la : at_.length = zs.length
  ab : ∀ a ∈ at_, 0 ≤ a ∧ a ≤ os.length
  lo : os.length ≤ 1000
  ob : ∀ g s, some (g, s) ∈ os → (0 ≤ g ∧ g ≤ os.length) ∧ 1 ≤ s ∧ s ≤ 12
  nb : Numbered at_ os
  np : NoPlain at_ os
theorem FigOk.nil : FigOk [] [] [] := ⟨.nil, (fun _ h => nomatch h), (fun _ h => nomatch h), by simp, rfl, (fun _ h => nomatch h), by simp, (fun _ _ h => nomatch h),
  ⟨fun _ => 0, fun _ => 0, rfl, (fun j a h => by simp at h), rfl, (fun v h => absurd h (Nat.not_lt_zero _)), (fun v h => by simp at h), (fun v g s h => by simp at h), rfl⟩, ⟨fun i g s h => by simp at h⟩⟩
def spFigI (K : PySem.W.Frag) : Sp := fun vs H Q _ => ∃ (p n a o dx : Addr) (zs : List Str) (at_ : List Int) (os : List (Option (Int × Int))), vs = [.ref p, .ref n, .ref a, .ref o] ∧ H p = some (.ins (fC K) dx []) ∧ SeqOf K H n (zs.map V.str) ∧ IntsIn K H a at_ ∧ OutsIn K H o os ∧ FigOk zs at_ os ∧
  ∀ H', ExB p H H' → FigAt K H' p zs at_ os → Q .non H'
section
variable {P : Program} {w : World} {K : PySem.W.Frag} {mg : Str → Option Value} {base : Heap}
theorem m_Figure (T : Tx w K mg) : Mak P w K mg base CX0 4 "Figure" (fC K) ["self", "names", "at", "outs"] (spFigI K) := by
  refine mak_mk T.D_Figure_init T.mk_Figure (by obtain ⟨u, h1, h2⟩ := T.c_Figure; cases h2; exact h1) sc_Figure_init (fun _ _ _ _ _ _ us hl => match us, hl with | [_, _, _, _], _ => rfl) (fun vs H Q E h => ?_) (fun f cdv A outer s H vs Q E hr h => ?_)
  · obtain ⟨p, n, a, o, dx, zs, at_, os, rfl, _⟩ := h
    rfl
  · obtain ⟨p, n, a, o, dx, zs, at_, os, rfl, hp, hn, ha, ho, F, k⟩ := h
    have lz := F.lz
    have la := F.la
    refine ⟨_, ((pss_cons (ps_if (pt_not (pt_val (by exact pe_cal (c_names_ascend T) hr (by decide) rfl pass0 (pa_cons (pv 1) pa_nil)))) (pss_one ps_never) pss_nil)
  (pss_cons (ps_if (pt_not (pt_val (by exact pe_cal (c_names_have_spots T) hr (by decide) rfl pass0 (pa_cons (pv 1) (pa_cons (pv 2) (pa_cons (pv 3) pa_nil)))))) (pss_one ps_never) pss_nil)
  (pss_cons (ps_if (pt_not (pt_val (by exact pe_cal (c_outs_lead_to_spots T) hr (by decide) rfl pass0 (pa_cons (pv 3) pa_nil)))) (pss_one ps_never) pss_nil)
  (pss_cons (ps_if (pt_not (pt_val (by exact pe_cal (c_spots_are_numbered T) hr (by decide) rfl pass0 (pa_cons (pv 2) (pa_cons (pv 3) pa_nil))))) (pss_one ps_never) pss_nil)
  (pss_cons (ps_if (pt_val (by exact pe_cal (c_has_plain_spot T) hr (by decide) rfl pass0 (pa_cons (pv 2) (pa_cons (pv 3) pa_nil)))) (pss_one ps_never) pss_nil)
  (pss_cons (ps_fld (pv 0) (pe_callTy cr_tupOf rfl T.f_tuple (by decide +kernel) (pa_cons (pv 1) pa_nil)) rfl)
  (pss_cons (ps_fld (pv 0) (pe_callTy cr_tupOf rfl T.f_tuple (by decide +kernel) (pa_cons (pv 2) pa_nil)) rfl)
  (pss_cons (ps_fld (pv 0) (by exact pe_cal (c_outs_as_tuples T) hr (by decide) rfl pass0 (pa_cons (pv 3) pa_nil)) rfl)
  (pss_cons (ps_fld (pv 0) (by exact pe_cal (c_held_spots T) hr (by decide) rfl pass0 (pa_cons (pv 3) pa_nil)) rfl)
  (pss_one (ps_fld (pv 0) (by exact pe_cal (c_figure_key T) hr (by decide) rfl pass0 (pa_cons (pv 2) (pa_cons (pv 3) pa_nil))) rfl)))))))))))), ?_⟩
    dsimp only [cxOf, Cx.nox]
    repeat walk_at "st"
    refine ⟨n, zs, rfl, hn, F.asc, F.nm, by omega, fun H1 e1 => ?_⟩
    repeat walk_at "st"
    refine ⟨n, a, o, _, at_, os, rfl, SeqOf.ex e1 hn, SeqOf.ex e1 ha, by omega, by rw [List.length_map]; exact la, ho.ex e1, F.lo, F.ab, fun H2 e2 => ?_⟩
    have e02 := e1.trans e2
    repeat walk_at "st"
    refine ⟨o, os, rfl, ho.ex e02, F.lo, F.ob, fun H3 e3 => ?_⟩
    have e03 := e02.trans e3
    repeat walk_at "st"
    refine ⟨a, o, at_, os, rfl, SeqOf.ex e03 ha, by omega, ho.ex e03, F.lo, F.nb, fun H4 e4 => ?_⟩
    have e04 := e03.trans e4
    repeat walk_at "st"
    refine ⟨a, o, at_, os, rfl, SeqOf.ex e04 ha, by omega, ho.ex e04, F.lo, F.np, fun H5 e5 => ?_⟩
    have e05 := e04.trans e5
    repeat walk_at "st"
    refine k_tupQ (SeqOf.ex e05 hn) fun tn H6 e6 h6 => ?_
    have e06 := e05.trans e6
    have hp6 := e06.get hp
    repeat walk_at "st"
    refine k_sfldE hp6 T.cls_Figure T.no_Figure_names (by decide) fun H7 b7 hp7 => ?_
    rw [gf_1] at hp7
    have n7 := b7.sqT hp6 h6
    have a7 : IntsIn K H7 a at_ := SeqOf.xb b7 hp6 (SeqOf.ex e06 ha)
    have o7 := (ho.ex e06).xb b7 hp6
    repeat walk_at "st"
    refine k_tupQ a7 fun ta H8 e8 h8 => ?_
    have hp8 := e8.get hp7
    repeat walk_at "st"
    refine k_sfldE hp8 T.cls_Figure T.no_Figure_at (show 1 < 1000 by decide) fun H9 b9 hp9 => ?_
    rw [gf_2] at hp9
    have n9 := b9.sqT hp8 (e8.sqT n7)
    have a9 := b9.sqT hp8 h8
    have i9 : IntsIn K H9 a at_ := SeqOf.xb b9 hp8 (SeqOf.ex e8 a7)
    have o9 := (o7.ex e8).xb b9 hp8
    repeat walk_at "st"
    refine ⟨o, os, rfl, o9, F.lo, fun H10 to e10 d10 => ?_⟩
    have hp10 := e10.get hp9
    repeat walk_at "st"
    refine k_sfldE hp10 T.cls_Figure T.no_Figure_outs (show 2 < 1000 by decide) fun H11 b11 hp11 => ?_
    rw [gf_3] at hp11
    have n11 := b11.sqT hp10 (e10.sqT n9)
    have a11 := b11.sqT hp10 (e10.sqT a9)
    have i11 : IntsIn K H11 a at_ := SeqOf.xb b11 hp10 (SeqOf.ex e10 i9)
    have o11 := (o9.ex e10).xb b11 hp10
    have d11 := Dp_exB b11 hp10 _ _ d10
    repeat walk_at "st"
    refine ⟨o, os, rfl, o11, F.lo, fun H12 th e12 h12 => ?_⟩
    have hp12 := e12.get hp11
    repeat walk_at "st"
    refine k_sfldE hp12 T.cls_Figure T.no_Figure_held (show 3 < 1000 by decide) fun H13 b13 hp13 => ?_
    rw [gf_4] at hp13
    have n13 := b13.sqT hp12 (e12.sqT n11)
    have a13 := b13.sqT hp12 (e12.sqT a11)
    have i13 : IntsIn K H13 a at_ := SeqOf.xb b13 hp12 (SeqOf.ex e12 i11)
    have o13 := (o11.ex e12).xb b13 hp12
    have d13 := Dp_exB b13 hp12 _ _ (Dp_ex e12 _ _ d11)
    have h13 : SqT K H13 th ((heldOf os).map V.int) := b13.sqT hp12 (.inl (.inl h12))
    repeat walk_at "st"
    refine ⟨a, o, at_, os, rfl, i13, by omega, o13, F.lo, fun H14 tk e14 h14 => ?_⟩
    have hp14 := e14.get hp13
    repeat walk_at "st"
    refine k_sfldE hp14 T.cls_Figure T.no_Figure_key (show 4 < 1000 by decide) fun H15 b15 hp15 => ?_
    rw [gf_5] at hp15
    repeat walk_at "st"
    refine k _ ?_ ⟨dx, tn, ta, to, th, tk, hp15, b15.sqT hp14 (e14.sqT n13), b15.sqT hp14 (e14.sqT a13), Dp_exB b15 hp14 _ _ (Dp_ex e14 _ _ d13), b15.sqT hp14 (e14.sqT h13), b15.sqT hp14 (.inl (.inl h14)), F.lz, F.la, F.lo, F.sn⟩
    exact (ExB.of e06).trans (b7.trans ((ExB.of e8).trans (b9.trans ((ExB.of e10).trans (b11.trans ((ExB.of e12).trans (b13.trans ((ExB.of e14).trans b15))))))))
end


/-! ### figure_from, Figure.__eq__, Figure.spot -/
theorem eqv_strsA (xs ys : List Str) : PyData.eqvAll (xs.map PyData.str) (ys.map PyData.str) = decide (xs = ys) := by
  induction xs generalizing ys with
  | nil => cases ys <;> simp [PyData.eqvAll]
  | cons x xs ih =>
    cases ys with
    | nil => simp [PyData.eqvAll]
    | cons y ys =>
      rw [List.map_cons, List.map_cons, PyData.eqvAll, ih]
      by_cases h1 : x = y <;> by_cases h2 : xs = ys <;> simp [PyData.eqv, h1, h2]
theorem dp_strsA {K : PySem.W.Frag} {H : Hp} : ∀ xs : List Str, DpAll K H (xs.map V.str) (xs.map PyData.str)
  | [] => .nil
  | x :: xs => .cons (.str x) (dp_strsA xs)
theorem lay_strsA (xs : List Str) (h : ∀ z ∈ xs, PyData.strOk z = true) : PyData.canLayAll0 (xs.map PyData.str) = true ∧ PyData.depthAll (xs.map PyData.str) = 0 := by
  induction xs with
  | nil => simp [PyData.canLayAll0, PyData.depthAll]
  | cons x xs ih =>
    have := ih fun z hz => h z (List.mem_cons_of_mem _ hz)
    simp [PyData.canLayAll0, PyData.canLay0, PyData.depthAll, PyData.depth, this, h x List.mem_cons_self]
theorem shp_strsT (xs : List Str) (h : ∀ z ∈ xs, PyData.strOk z = true) : SeqAt.shaped (.tuple (xs.map PyData.str)) = true := by
  obtain ⟨h1, h2⟩ := lay_strsA xs h
  unfold SeqAt.shaped
  have h3 : (PyData.tuple (xs.map PyData.str)).depth ≤ 64 := by
    rw [PyData.depth, h2]
    omega
  have h4 : (PyData.tuple (xs.map PyData.str)).canLay0 = true := by
    rw [PyData.canLay0]
    exact h1
  rw [h4, decide_eq_true h3]
  rfl
theorem k_eqST {K : PySem.W.Frag} {H : Hp} {Q : VK} {a b : Addr} {xs ys : List Str} (h1 : SqT K H a (xs.map V.str)) (h2 : SqT K H b (ys.map V.str)) (s1 : ∀ z ∈ xs, PyData.strOk z = true) (s2 : ∀ z ∈ ys, PyData.strOk z = true) (q : Q (.bl (decide (xs = ys))) H) : rEqD K (.ref a) (.ref b) H Q :=
  ⟨.tuple (xs.map PyData.str), .tuple (ys.map PyData.str), .tup h1 (dp_strsA xs), .tup h2 (dp_strsA ys), shp_strsT xs s1, shp_strsT ys s2, by rw [PyData.eqv, eqv_strsA]; exact q⟩
def spFigF (K : PySem.W.Frag) : Sp := fun vs H Q _ => ∃ (n a o : Addr) (zs : List Str) (at_ : List Int) (os : List (Option (Int × Int))), vs = [.ref n, .ref a, .ref o] ∧ SeqOf K H n (zs.map V.str) ∧ IntsIn K H a at_ ∧ OutsIn K H o os ∧ zs.length ≤ 20 ∧ at_.length = zs.length ∧ os.length ≤ 1000 ∧ (∀ z ∈ zs, PyData.strOk z = true) ∧
  ∀ H' p, Ex H H' → H p = none → FigAt K H' p zs at_ os → Q (.ref p) H'
def spFigE (K : PySem.W.Frag) : Sp := fun vs H Q _ => ∃ (p h : Addr) (zs zs' : List Str) (at_ at' : List Int) (os os' : List (Option (Int × Int))), vs = [.ref p, .ref h] ∧ FigAt K H p zs at_ os ∧ FigAt K H h zs' at' os' ∧ ∀ H', Ex H H' → Q (.bl (decide (zs = zs') && decide (keyOf at_ os = keyOf at' os'))) H'
def spSpot (K : PySem.W.Frag) : Sp := fun vs H Q E => ∃ (p : Addr) (z : Str) (zs : List Str) (at_ : List Int) (os : List (Option (Int × Int))), vs = [.ref p, .str z] ∧ FigAt K H p zs at_ os ∧ z.length ≤ 1000 ∧
  (∀ i a, zs[i]? = some z → at_[i]? = some a → (∀ y ∈ zs.take i, y ≠ z) → ∀ H', Ex H H' → Q (.int a) H') ∧ (z ∉ zs → ∀ H' d, Ex H H' → H' d = some (xdN z) → E (eNoN K) (some d) H')
section
variable {P : Program} {w : World} {K : PySem.W.Frag} {mg : Str → Option Value} {base : Heap}
theorem c_figure_from (T : Tx w K mg) : Cal P w K mg base CX0 6 "figure_from" ["names", "at", "outs"] (spFigF K) := by
  refine cal_mk T.D_figure_from T.m_figure_from sc_figure_from (fun _ _ _ _ _ _ us hl => match us, hl with | [_, _, _], _ => rfl) (fun vs H Q E h => ?_) (fun f cdv A outer s H vs Q E hr h => ?_)
  · obtain ⟨n, a, o, zs, at_, os, rfl, _⟩ := h
    rfl
  · obtain ⟨n, a, o, zs, at_, os, rfl, hn, ha, ho, lz, la, lo, sn, k⟩ := h
    refine ⟨_, ((pss_cons (ps_set (i := 3) sc_figure_from.nd rfl (Or.inl rfl) (by exact pe_mak (m_Figure T) hr (by decide) rfl pass0 (pa_cons (pe_tup pa_nil) (pa_cons (pe_tup pa_nil) (pa_cons (pe_tup pa_nil) pa_nil)))))
  (pss_cons (ps_fld (pv 3) (pe_callTy cr_tupOf rfl T.f_tuple (by decide +kernel) (pa_cons (pv 0) pa_nil)) rfl)
  (pss_cons (ps_fld (pv 3) (pe_callTy cr_tupOf rfl T.f_tuple (by decide +kernel) (pa_cons (pv 1) pa_nil)) rfl)
  (pss_cons (ps_fld (pv 3) (by exact pe_cal (c_outs_as_tuples T) hr (by decide) rfl pass0 (pa_cons (pv 2) pa_nil)) rfl)
  (pss_cons (ps_fld (pv 3) (by exact pe_cal (c_held_spots T) hr (by decide) rfl pass0 (pa_cons (pv 2) pa_nil)) rfl)
  (pss_cons (ps_fld (pv 3) (by exact pe_cal (c_figure_key T) hr (by decide) rfl pass0 (pa_cons (pv 1) (pa_cons (pv 2) pa_nil))) rfl)
  (pss_one (ps_ret (pv 3)))))))))), ?_⟩
    dsimp only [cxOf, Cx.nox]
    repeat walk_at "st"
    intro t1 H1 ht1 e1 h1
    repeat walk_at "st"
    intro t2 H2 ht2 e2 h2
    repeat walk_at "st"
    intro t3 H3 ht3 e3 h3
    repeat walk_at "st"
    refine MakeK.of fun p H4 dx hp0 eP hpP => ?_
    have e13 := e1.trans (e2.trans e3)
    have np : H p = none := e13.none hp0
    refine ⟨p, t1, t2, t3, dx, [], [], [], rfl, hpP, .inr (.inl (.inl ((e2.trans (e3.trans eP)).get h1))), .inr (.inl (.inl ((e3.trans eP).get h2))), ⟨[], .inr (.inl (.inl (eP.get h3))), .nil⟩, FigOk.nil, fun H5 b5 hA => ?_⟩
    refine ⟨rfl, ?_⟩
    obtain ⟨dx, tn, ta, to, th, tk, hA⟩ := hA
    have i5 := hA.ins
    have e5 : Ex H H5 := ExB.old (e13.trans eP) np b5
    clear hA
    repeat walk_at "st"
    refine k_tupQ (SeqOf.ex e5 hn) fun tn H6 e6 h6 => ?_
    repeat walk_at "st"
    have i6 := e6.get i5
    refine k_sfldE i6 T.cls_Figure T.no_Figure_names (show 5 < 1000 by decide) fun H7 b7 i7 => ?_
    rw [gf_n] at i7
    have e7 : Ex H H7 := ExB.old (e5.trans e6) np b7
    have n7 := b7.sqT i6 h6
    repeat walk_at "st"
    refine k_tupQ (SeqOf.ex e7 ha) fun ta H8 e8 h8 => ?_
    repeat walk_at "st"
    have i8 := e8.get i7
    refine k_sfldE i8 T.cls_Figure T.no_Figure_at (show 5 < 1000 by decide) fun H9 b9 i9 => ?_
    rw [gf_a] at i9
    have e9 : Ex H H9 := ExB.old (e7.trans e8) np b9
    have n9 := b9.sqT i8 (e8.sqT n7)
    have a9 := b9.sqT i8 h8
    repeat walk_at "st"
    refine ⟨o, os, rfl, ho.ex e9, lo, fun H10 to e10 d10 => ?_⟩
    repeat walk_at "st"
    have i10 := e10.get i9
    refine k_sfldE i10 T.cls_Figure T.no_Figure_outs (show 5 < 1000 by decide) fun H11 b11 i11 => ?_
    rw [gf_o] at i11
    have e11 : Ex H H11 := ExB.old (e9.trans e10) np b11
    have n11 := b11.sqT i10 (e10.sqT n9)
    have a11 := b11.sqT i10 (e10.sqT a9)
    have d11 := Dp_exB b11 i10 _ _ d10
    repeat walk_at "st"
    refine ⟨o, os, rfl, ho.ex e11, lo, fun H12 th e12 h12 => ?_⟩
    repeat walk_at "st"
    have i12 := e12.get i11
    refine k_sfldE i12 T.cls_Figure T.no_Figure_held (show 5 < 1000 by decide) fun H13 b13 i13 => ?_
    rw [gf_h] at i13
    have e13 : Ex H H13 := ExB.old (e11.trans e12) np b13
    have n13 := b13.sqT i12 (e12.sqT n11)
    have a13 := b13.sqT i12 (e12.sqT a11)
    have d13 := Dp_exB b13 i12 _ _ (Dp_ex e12 _ _ d11)
    have h13 : SqT K H13 th ((heldOf os).map V.int) := b13.sqT i12 (.inl (.inl h12))
    repeat walk_at "st"
    refine ⟨a, o, at_, os, rfl, SeqOf.ex e13 ha, by omega, ho.ex e13, lo, fun H14 tk e14 h14 => ?_⟩
    repeat walk_at "st"
    have i14 := e14.get i13
    refine k_sfldE i14 T.cls_Figure T.no_Figure_key (show 5 < 1000 by decide) fun H15 b15 i15 => ?_
    rw [gf_k] at i15
    have e15 : Ex H H15 := ExB.old (e13.trans e14) np b15
    repeat walk_at "st"
    exact k _ p e15 np ⟨dx, tn, ta, to, th, tk, i15, b15.sqT i14 (e14.sqT n13), b15.sqT i14 (e14.sqT a13), Dp_exB b15 i14 _ _ (Dp_ex e14 _ _ d13), b15.sqT i14 (e14.sqT h13), b15.sqT i14 (.inl (.inl h14)), lz, la, lo, sn⟩
theorem me_Figure_eq (Y : Ty P w K mg) : Met P w K mg base CX0 1 (fC K) "__eq__" ["self", "other"] (spFigE K) := by
  have T := Y.T
  refine met_mk T.D_Figure_eq T.me_Figure___eq__ sc_Figure_eq (fun _ _ _ _ _ _ us hl => match us, hl with | [_, _], _ => rfl) (fun vs H Q E h => ?_) (fun f cdv A outer s H vs Q E hr h => ?_)
  · obtain ⟨p, h, zs, zs', at_, at', os, os', rfl, _⟩ := h
    rfl
  · obtain ⟨p, h, zs, zs', at_, at', os, os', rfl, hA, hB, k⟩ := h
    obtain ⟨dx, tn, ta, to, th, tk, hA1⟩ := id hA
    obtain ⟨dx', tn', ta', to', th', tk', hB1⟩ := id hB
    refine ⟨_, ((pss_cons (ps_if (pt_not (pt_val (pe_callB call_isi rfl T.f_isinstance (by decide +kernel) (pa_cons (pv 1) (pa_cons (by exact C8.pe_gc rfl T.c_Figure) pa_nil))))) (pss_one (ps_ret pe_bl)) pss_nil)
  (pss_one (ps_ret (pe_and (pe_cmpR (op_eqD (hu64 hr)) (pe_fld (pv 0) rfl) (pe_fld (pv 1) rfl) (nomark _)) (pe_one (pe_cmpR (op_eqD (hu64 hr)) (pe_fld (pv 0) rfl) (pe_fld (pv 1) rfl) (nomark _)))))))), ?_⟩
    dsimp only [cxOf, Cx.nox]
    repeat walk_at "st"
    refine ⟨_, _, _, _, true, rfl, .own _, Y.tyxF hB1.ins, Y.kf, ?_⟩
    repeat walk_at "st"
    refine k_fldE hA1.ins T.cls_Figure T.no_Figure_names (gl_names ..) ?_
    repeat walk_at "st"
    refine k_fldE hB1.ins T.cls_Figure T.no_Figure_names (gl_names ..) ?_
    refine k_eqST hA1.nms hB1.nms hA1.sn hB1.sn ?_
    repeat walk_at "st"
    by_cases e1 : zs = zs'
    · rw [decide_eq_true e1] at k ⊢
      repeat walk_at "st"
      refine k_fldE hA1.ins T.cls_Figure T.no_Figure_key (gl_key ..) ?_
      repeat walk_at "st"
      refine k_fldE hB1.ins T.cls_Figure T.no_Figure_key (gl_key ..) ?_
      refine k_eqIT hA1.key hB1.key ?_
      exact k _ (Ex.refl _)
    · rw [decide_eq_false e1] at k ⊢
      repeat walk_at "st"
      exact k _ (Ex.refl _)
theorem me_Figure_spot (Y : Ty P w K mg) : Met P w K mg base (L2N.CX P w) 3 (fC K) "spot" ["self", "name"] (spSpot K) := by
  have T := Y.T
  refine met_mkX T.D_Figure_spot T.me_Figure_spot sc_Figure_spot (fun _ _ _ _ _ _ us hl => match us, hl with | [_, _], _ => rfl) (fun vs H Q E h => ?_) (fun f cdv A outer s H vs Q E hr h => ?_)
  · obtain ⟨p, z, zs, at_, os, rfl, _⟩ := h
    rfl
  · obtain ⟨p, z, zs, at_, os, rfl, hA, hz1, k1, k2⟩ := h
    obtain ⟨dx, tn, ta, to, th, tk, hA⟩ := hA
    have hla := hA.la
    refine ⟨_, ((pss_cons (ps_for (passes_of rfl) rfl (RZ.pi_zipA rfl T.f_zip (pa_cons (pe_fld (pv 0) rfl) (pa_cons (pe_fld (pv 0) rfl) pa_nil))) (pg_tup (n := 2) rfl (pgs_cons (pg_name (i := 2) sc_Figure_spot.nd rfl (Or.inl rfl)) (pgs_cons (pg_name (i := 3) sc_Figure_spot.nd rfl (Or.inl rfl)) pgs_nil))) (pss_one (ps_if (pt_cmpR op_eq (pv 2) (pv 1) (nomark _)) (pss_one (ps_ret (pv 3))) pss_nil)))
  (pss_one (L2N.ps_raise rfl (L2N.takes_of rfl rfl rfl rfl) (by exact pmk_NoName Y hr rfl (pa_cons (pv 1) pa_nil)))))), ?_⟩
    dsimp only [cxOf]
    repeat walk_at "st"
    refine k_fldE hA.ins T.cls_Figure T.no_Figure_names (gl_names ..) ?_
    repeat walk_at "st"
    refine k_fldE hA.ins T.cls_Figure T.no_Figure_at (gl_at ..) ?_
    repeat walk_at "st"
    refine ⟨tn, ta, _, _, rfl, Or.inr ⟨hA.nms, hA.ats, RZ.for_zipT (xs := zs.map V.str) (ys := at_.map V.int) (by rw [List.length_map, List.length_map]; exact hla.symm) (fun i σ' H' => (∃ v2 v3, σ' = [some (.ref p), some (.str z), v2, v3]) ∧ Ex H H' ∧ ∀ y ∈ zs.take i, y ≠ z) ⟨⟨none, none, rfl⟩, Ex.refl _, fun n hn => nomatch hn⟩
      (fun j σ5 H5 q => ⟨q.2.1.sqT hA.nms, q.2.1.sqT hA.ats⟩) (fun i x y T1 σ5 H5 g1 g2 ⟨⟨v2, v3, es⟩, e, hf⟩ hT => ?_) (fun σ5 H5 ⟨⟨v2, v3, es⟩, e, hf⟩ => ?_)⟩⟩
    · subst es
      rw [List.getElem?_map] at g1 g2
      obtain ⟨n, hn, rfl⟩ := Option.map_eq_some_iff.mp g1
      obtain ⟨a, ha, rfl⟩ := Option.map_eq_some_iff.mp g2
      have eT : Ex H5 (upd H5 T1 (.tup [.str n, .int a])) := Ex.new hT
      have hT : upd H5 T1 (.tup [.str n, .int a]) T1 = some (.tup [.str n, .int a]) := upd_same
      generalize upd H5 T1 (.tup [.str n, .int a]) = H6 at eT hT
      refine k_gTup (Or.inl (Or.inl hT)) rfl ?_
      repeat walk_at "st"
      by_cases hk : n = z
      · rw [decide_eq_true (show V.str n = V.str z by rw [hk])]
        repeat walk_at "st"
        exact k1 i a (hk ▸ hn) ha hf _ (e.trans eT)
      · rw [decide_eq_false (show ¬ V.str n = V.str z from fun h => hk (V.str.inj h))]
        repeat walk_at "st"
        refine ⟨⟨_, _, rfl⟩, e.trans eT, fun m hm => ?_⟩
        rw [List.take_add_one, hn] at hm
        rcases List.mem_append.mp hm with h | h
        · exact hf m h
        · have : m = n := by simpa using h
          rw [this]
          exact hk
    · subst es
      rw [List.length_map, List.take_length] at hf
      repeat walk_at "st"
      dsimp only
      refine k_mkN ?_
      repeat walk_at "st"
      exact ⟨z, rfl, hz1, fun d' hd' => k2 (fun hm => hf z hm rfl) _ d' (e.trans (Ex.new hd')) upd_same⟩
end


/-! ### segment_word -/
theorem marks_snoc (l : List Cell) (c : Cell) : marksOf (l ++ [c]) = marksOf l ++ c.m := by
  unfold marksOf
  rw [List.map_append, TL.join_eq, TL.join_eq]
  show Str.join "" (l.map (·.m) ++ [c.m]) = _
  rw [PyProof.Rows.FinIter.join_snoc]
  cases l with
  | nil => exact (Str.empty_append _).symm
  | cons x l =>
    rw [if_neg (by simp)]
    exact congrArg (· ++ c.m) (Str.append_empty _)
structure SegI (ns : List (Str × Int)) (cs : List Cell) (c : Cell) (pre : List Cell) (cur : Cell) (k : Nat) : Prop where
  len : pre.length + k = cs.length
  sg : segL ns cs c = pre ++ seg (plainB ns cs) (cellOf cs) k cur
  ls : lastC ns cs c = segZ (plainB ns cs) (cellOf cs) k cur
  s : Sg ns cs c (cur :: pre.reverse)
section
variable {ns : List (Str × Int)} {cs : List Cell} {c cur : Cell} {pre : List Cell} {k : Nat}
theorem SegI.start : SegI ns cs c [] c cs.length := ⟨by simp, rfl, rfl, .one⟩
theorem SegI.step (h0 : c ∈ cs) (hq : plainB ns cs c.a = false) (S : SegI ns cs c pre cur k) (hp : plainB ns cs cur.l = true) : ∃ d k', k = k' + 1 ∧ cellOf cs cur.l = some d ∧ SegI ns cs c (pre ++ [cur]) d k' := by
  obtain ⟨d, hd, _⟩ := plain_cell hp
  have s2 : Sg ns cs c (d :: cur :: pre.reverse) := .more cur d pre.reverse S.s hp hd
  have hl := s2.len h0 hq
  have h1 := S.len
  rw [List.length_cons, List.length_cons, List.length_reverse] at hl
  obtain ⟨k', rfl⟩ : ∃ k', k = k' + 1 := ⟨k - 1, by omega⟩
  obtain ⟨e1, e2⟩ := seg_step (pl := plainB ns cs) (f := cellOf cs) hp hd k'
  refine ⟨d, k', rfl, hd, ⟨by rw [List.length_append]; simp; omega, by rw [S.sg, e1, List.append_assoc]; rfl, by rw [S.ls, e2], by rw [List.reverse_append]; exact s2⟩⟩
theorem SegI.stop (S : SegI ns cs c pre cur k) (hp : plainB ns cs cur.l = false) : segL ns cs c = pre ++ [cur] ∧ lastC ns cs c = cur := by
  obtain ⟨e1, e2⟩ := seg_stop (pl := plainB ns cs) (f := cellOf cs) hp k
  exact ⟨by rw [S.sg, e1], by rw [S.ls, e2]⟩
theorem SegI.mem (h0 : c ∈ cs) (S : SegI ns cs c pre cur k) : cur ∈ cs ∧ ∀ d ∈ pre, d ∈ cs := ⟨S.s.mem h0 cur List.mem_cons_self, fun d hd => S.s.mem h0 d (List.mem_cons_of_mem _ (List.mem_reverse.mpr hd))⟩
end
theorem sum_le {l : List Cell} (h : ∀ c ∈ l, c.m.length ≤ 10) : ((l.map (·.m)).map (·.length)).sum ≤ 10 * l.length := by
  induction l with
  | nil => simp
  | cons c l ih =>
    have h1 := h c List.mem_cons_self
    have h2 := ih fun d hd => h d (List.mem_cons_of_mem _ hd)
    simp only [List.map_cons, List.sum_cons, List.length_cons]
    omega
/-- keys: the addresses of the plain cells -/
def PlD (ns : List (Str × Int)) (cs : List Cell) (kvs : List (L2.Key × V)) : Prop := ∀ a, (valV kvs (Sum.inl a)).isSome = plainB ns cs a
def spSegW (K : PySem.W.Frag) : Sp := fun vs H Q _ => ∃ (p D : Addr) (x : Int) (ns : List (Str × Int)) (cs : List Cell) (kvs : List (L2.Key × V)) (c : Cell), vs = [.ref p, .int x, .ref D] ∧ HeapAt K H p ns cs ∧ H D = some (.dK kvs) ∧ PlD ns cs kvs ∧ cellOf cs x = some c ∧ plainB ns cs x = false ∧ (∀ c ∈ cs, c.m.length ≤ 10) ∧
  ∀ H' t, Ex H H' → H' t = some (.tup [.str (marksOf (segL ns cs c)), .int (goalC ns cs c)]) → Q (.ref t) H'
section
variable {P : Program} {w : World} {K : PySem.W.Frag} {mg : Str → Option Value} {base : Heap}
theorem c_segment_word (T : Tx w K mg) : Cal P w K mg base CX0 3 "segment_word" ["heap", "spot", "plain"] (spSegW K) := by
  refine cal_mk T.D_segment_word T.m_segment_word sc_segment_word (fun _ _ _ _ _ _ us hl => match us, hl with | [_, _, _], _ => rfl) (fun vs H Q E h => ?_) (fun f cdv A outer s H vs Q E hr h => ?_)
  · obtain ⟨p, D, x, ns, cs, kvs, c, rfl, _⟩ := h
    rfl
  · obtain ⟨p, D, x, ns, cs, kvs, c, rfl, hA, hD, hP, hc, hq, hm, k⟩ := h
    obtain ⟨k1, k2⟩ := cell_key hc
    have hq' : plainB ns cs c.a = false := by rw [k2]; exact hq
    obtain ⟨dx, tn, tc, d, kvs0, hA1⟩ := id hA
    have hu := hu_of hr
    refine ⟨_, ((pss_cons (ps_set (i := 3) sc_segment_word.nd rfl (Or.inl rfl) (by exact pe_met (pv 0) T.cls_Heap (me_Heap_cell T) hr (by decide) pass0 (pa_cons (pv 1) pa_nil)))
  (pss_cons (ps_set (i := 4) sc_segment_word.nd rfl (Or.inl rfl) (pe_lst (pa_cons (pe_ix (ix_tupK (K := K) rfl) (pv 3) pe_int (fun _ _ => rfl)) pa_nil)))
  (pss_cons (ps_while PassesOwn.never (pt_cmp (pc_din hu (pe_ix (ix_tupK (K := K) rfl) (pv 3) pe_int (fun _ _ => rfl)) (pv 2)) rfl) (pss_cons (ps_set (i := 3) sc_segment_word.nd rfl (Or.inl rfl) (by exact pe_met (pv 0) T.cls_Heap (me_Heap_cell T) hr (by decide) pass0 (pa_cons (pe_ix (ix_tupK (K := K) rfl) (pv 3) pe_int (fun _ _ => rfl)) pa_nil)))
  (pss_one (ps_expr (pe_bm PySem.F.plainAttrs_list PySem.F.slot_list_append PySem.F.type_list_append mt_append (pv 4) (pa_cons (pe_ix (ix_tupK (K := K) rfl) (pv 3) pe_int (fun _ _ => rfl)) pa_nil))))))
  (pss_one (ps_ret (pe_tup (pa_cons (pe_join pe_str (pv 4)) (pa_cons (pe_ix (ix_tupK (K := K) rfl) (pv 3) pe_int (fun _ _ => rfl)) pa_nil))))))))), ?_⟩
    dsimp only [cxOf, Cx.nox]
    repeat walk_at "st"
    refine ⟨p, dx, _, rfl, hA1.ins, hf_cell _ _ _, ?_⟩
    repeat walk_at "st"
    refine ⟨p, x, ns, cs, rfl, hA, fun v hv => ?_⟩
    rw [hc] at hv
    obtain ⟨t, rfl, ht⟩ := hv
    have ht' := ht
    unfold rowT at ht'
    repeat walk_at "st"
    intro L H1 hL e1 h1
    repeat walk_at "st"
    refine ⟨fun m σ' H' => ∃ (pre : List Cell) (cur : Cell) (t : Addr), σ' = [some (.ref p), some (.int x), some (.ref D), some (.ref t), some (.ref L)] ∧ Ex H H' ∧ H' t = some (.tup (rowT cur)) ∧ H' L = some (.lst ((pre ++ [cur]).map fun c => V.str c.m)) ∧ SegI ns cs c pre cur m, ⟨cs.length, [], c, t, rfl, e1, e1.get ht, h1, .start⟩, ?_⟩
    clear ht ht'
    rintro m σ H2 ⟨pre, cur, t, rfl, e2, ht, hL2, S⟩
    have ht' := ht
    unfold rowT at ht'
    have hD2 := e2.get hD
    have hA2 := hA.ex e2
    obtain ⟨dx2, tn2, tc2, d2, kvs2, hA3⟩ := id hA2
    obtain ⟨mm1, mm2⟩ := S.mem k1
    repeat walk_at "st"
    refine k_dinE (k := Sum.inl cur.l) rfl (.inl hD2) ?_
    cases hp : plainB ns cs cur.l with
    | true =>
      rw [hP, hp]
      repeat walk_at "st"
      refine ⟨fun σ' H' => ∃ m', m' < m ∧ ∃ (pre : List Cell) (cur : Cell) (t : Addr), σ' = [some (.ref p), some (.int x), some (.ref D), some (.ref t), some (.ref L)] ∧ Ex H H' ∧ H' t = some (.tup (rowT cur)) ∧ H' L = some (.lst ((pre ++ [cur]).map fun c => V.str c.m)) ∧ SegI ns cs c pre cur m', fun _ _ h => h, ?_⟩
      obtain ⟨d', k', ek, hd', S'⟩ := S.step k1 hq' hp
      have hlen := S.len
      have hc60 := hA3.lc
      repeat walk_at "st"
      refine ⟨p, dx2, _, rfl, hA3.ins, hf_cell _ _ _, ?_⟩
      repeat walk_at "st"
      refine ⟨p, cur.l, ns, cs, rfl, hA2, fun v hv => ?_⟩
      rw [hd'] at hv
      obtain ⟨t3, rfl, ht3⟩ := hv
      have ht3' := ht3
      unfold rowT at ht3'
      repeat walk_at "st"
      intro H3 b3 h3
      repeat walk_at "st"
      refine ⟨k', by omega, pre ++ [cur], d', t3, rfl, ExB.old e2 hL b3, b3 _ _ (ne_of ht3 hL2 (fun z => nomatch z)) ht3, ?_, S'⟩
      rw [h3]
      simp
    | false =>
      rw [hP, hp]
      repeat walk_at "st"
      obtain ⟨q1, q2⟩ := S.stop hp
      have hlen := S.len
      have hc60 := hA3.lc
      refine k_m1 ?_
      repeat walk_at "st"
      refine ⟨⟨_, rfl⟩, ?_⟩
      repeat walk_at "st"
      refine ⟨"", L, (pre ++ [cur]).map (·.m), rfl, rfl, .inl (.inl (.inl ?_)), ?_, ?_⟩
      · rw [hL2, List.map_map]
        rfl
      · have := sum_le (l := pre ++ [cur]) fun c hc => hm c (by
          rcases List.mem_append.mp hc with h | h
          · exact mm2 c h
          · rw [List.mem_singleton.mp h]; exact mm1)
        rw [List.length_append] at this
        simp only [List.length_map, List.length_append, List.length_cons, List.length_nil] at this ⊢
        have e0 : (("" : Str)).length = 0 := rfl
        rw [e0]
        omega
      · repeat walk_at "st"
        intro t4 H4 ht4 e4 h4
        repeat walk_at "st"
        refine k _ t4 (e2.trans e4) ?_
        rw [h4, q1]
        unfold goalC
        rw [q2]
        rfl
end


/-! ### plain_cells -/
theorem inc_snoc (l : List Cell) (c : Cell) (a : Int) : inc (l ++ [c]) a = if c.l = a then inc l a ++ [c] else inc l a := by
  unfold inc
  rw [List.filter_append]
  by_cases h : c.l = a
  · rw [if_pos h, List.filter_cons_of_pos (by simp [h])]
    rfl
  · rw [if_neg h, List.filter_cons_of_neg (by simp [h])]
    simp
def ShAt (K : PySem.W.Frag) (H : Hp) (kvs : List (L2.Key × V)) (l : List Cell) : Prop := ∀ a, (inc l a = [] ∧ valV kvs (Sum.inl a) = none) ∨ ∃ t, valV kvs (Sum.inl a) = some (V.ref t) ∧ SqT K H t ((inc l a).map fun c => V.int c.s)
theorem ShAt.ex {K : PySem.W.Frag} {H H' : Hp} {kvs : List (L2.Key × V)} {l : List Cell} (e : Ex H H') (h : ShAt K H kvs l) : ShAt K H' kvs l := fun a => (h a).imp id fun ⟨t, h1, h2⟩ => ⟨t, h1, e.sqT h2⟩
theorem sqT_exDk {K : PySem.W.Frag} {H H' : Hp} {l : Addr} {kvs : List (L2.Key × V)} (hl : H l = some (.dK kvs)) (b : ExB l H H') {a : Addr} {xs : List V} (h : SqT K H a xs) : SqT K H' a xs := by
  rcases h with (h | ⟨o, h⟩) | h
  · exact .inl (.inl (b _ _ (ne_of h hl (fun z => nomatch z)) h))
  · exact .inl (.inr ⟨o, b _ _ (ne_of h hl (fun z => nomatch z)) h⟩)
  · exact .inr h
theorem ShAt.put {K : PySem.W.Frag} {H H' : Hp} {D : Addr} {kvs : List (L2.Key × V)} {l : List Cell} {c : Cell} {t : Addr} (hD : H D = some (.dK kvs)) (b : ExB D H H') (h : ShAt K H kvs l) (ht : SqT K H t ((inc l c.l ++ [c]).map fun c => V.int c.s)) : ShAt K H' (putK kvs (Sum.inl c.l) (.ref t)) (l ++ [c]) := by
  intro a
  rw [inc_snoc, valV_put]
  by_cases e : c.l = a
  · rw [if_pos e, if_pos (by rw [e])]
    exact .inr ⟨t, rfl, sqT_exDk hD b (e ▸ ht)⟩
  · rw [if_neg e, if_neg (fun z => e (Sum.inl.inj z).symm)]
    exact (h a).imp id fun ⟨t, h1, h2⟩ => ⟨t, h1, sqT_exDk hD b h2⟩
/-- the keys: the plain cells among the first ones -/
def PlAt (ns : List (Str × Int)) (cs l : List Cell) (kvs : List (L2.Key × V)) : Prop := ∀ a, (valV kvs (Sum.inl a)).isSome = true ↔ plainB ns cs a = true ∧ ∃ c ∈ l, c.a = a
theorem plain_iff {ns : List (Str × Int)} {cs : List Cell} {c : Cell} (hc : cellOf cs c.a = some c) : plainB ns cs c.a = (decide (c.a ∉ ns.map (·.2)) && decide ((inc cs c.a).map (·.s) = [c.s])) := by
  unfold plainB
  rw [hc]
  dsimp only
  congr 1
  by_cases h : c.a ∈ ns.map (·.2)
  · rw [decide_eq_false (not_not_intro h), decide_eq_false]
    intro z
    obtain ⟨n, hn, e⟩ := List.mem_map.mp h
    exact z n hn e
  · rw [decide_eq_true h, decide_eq_true]
    intro n hn e
    exact h (e ▸ List.mem_map_of_mem hn)
def spPlnC (K : PySem.W.Frag) : Sp := fun vs H Q _ => ∃ (p : Addr) (ns : List (Str × Int)) (cs : List Cell), vs = [.ref p] ∧ HeapAt K H p ns cs ∧ ∀ H' D kvs, Ex H H' → H' D = some (.dK kvs) → PlD ns cs kvs → Q (.ref D) H'
section
variable {P : Program} {w : World} {K : PySem.W.Frag} {mg : Str → Option Value} {base : Heap}
theorem c_plain_cells (T : Tx w K mg) : Cal P w K mg base CX0 3 "plain_cells" ["heap"] (spPlnC K) := by
  refine cal_mk T.D_plain_cells T.m_plain_cells sc_plain_cells (fun _ _ _ _ _ _ us hl => match us, hl with | [_], _ => rfl) (fun vs H Q E h => ?_) (fun f cdv A outer s H vs Q E hr h => ?_)
  · obtain ⟨p, ns, cs, rfl, _⟩ := h
    rfl
  · obtain ⟨p, ns, cs, rfl, hA, k⟩ := h
    obtain ⟨dx, tn, tc, d, kvs, hA1⟩ := id hA
    obtain ⟨_, ys, et, hy, hyl, _, hyc⟩ := names_tup hA1.nms
    cases et
    obtain ⟨_, zs, et, hz, hzl, hzc⟩ := cells_tup hA1.cls
    cases et
    have hln := hA1.ln
    have hlc := hA1.lc
    have hu := hu_of hr
    refine ⟨_, ((pss_cons (ps_set (i := 1) sc_plain_cells.nd rfl (Or.inl rfl) pe_dnewK)
  (pss_cons (ps_for PassesOwn.never rfl (pi_tup (pe_fld (pv 0) rfl)) (pg_tup (n := 4) rfl (pgs_cons (pg_name (i := 2) sc_plain_cells.nd rfl (Or.inl rfl)) (pgs_cons (pg_name (i := 3) sc_plain_cells.nd rfl (Or.inl rfl)) (pgs_cons (pg_name (i := 4) sc_plain_cells.nd rfl (Or.inl rfl)) (pgs_cons (pg_name (i := 5) sc_plain_cells.nd rfl (Or.inl rfl)) pgs_nil))))) (pss_one (ps_dput hu (pv 1) (pv 4) (pe_op op_catA (pe_dget2 hu (pv 1) (pv 4) (pe_tup pa_nil) ⟨rfl, rfl, rfl, rfl⟩) (pe_tup (pa_cons (pv 5) pa_nil))) rfl)))
  (pss_cons (ps_setLc (i := 6) (own := [("name", 7), ("number", 8)]) rfl sc_plain_cells.nd rfl rfl (sw_true rfl rfl rfl (by decide +kernel)) (pi_tup (pe_fld (pv 0) rfl)) (blkOk_by (N := ["heap", "shares", "address", "mark", "link", "share", "named", "name", "number", "plain"]) (sc := defScope s_plain_cells) (by decide +kernel)) (fun _ _ _ _ _ => (by exact pg_tupK (K := K) (n := 2) rfl rfl (pgs_cons (pg_name (i := 7) sc_plain_cells.nd rfl (Or.inl rfl)) (pgs_cons (pg_name (i := 8) sc_plain_cells.nd rfl (Or.inl rfl)) pgs_nil)))) (fun _ _ _ _ _ => pts_nil) (fun _ _ _ _ _ => (pv 8)))
  (pss_cons (ps_set (i := 9) sc_plain_cells.nd rfl (Or.inl rfl) pe_dnewK)
  (pss_cons (ps_for PassesOwn.never rfl (pi_tup (pe_fld (pv 0) rfl)) (pg_tup (n := 4) rfl (pgs_cons (pg_name (i := 2) sc_plain_cells.nd rfl (Or.inl rfl)) (pgs_cons (pg_name (i := 3) sc_plain_cells.nd rfl (Or.inl rfl)) (pgs_cons (pg_name (i := 4) sc_plain_cells.nd rfl (Or.inl rfl)) (pgs_cons (pg_name (i := 5) sc_plain_cells.nd rfl (Or.inl rfl)) pgs_nil))))) (pss_one (ps_if (PW.pt (pw_and (pt_cmpR op_notIn_seq (pv 2) (pv 6) rfl) (pw_and1 (pt_cmpR (op_eqD (hu64 hr)) (pe_dget1 hu (pv 1) (pv 2) ⟨rfl, rfl, rfl, rfl⟩) (pe_tup (pa_cons (pv 5) pa_nil)) (nomark _))))) (pss_one (ps_dput hu (pv 9) (pv 2) pe_bl rfl)) pss_nil)))
  (pss_one (ps_ret (pv 9))))))))), ?_⟩
    dsimp only [cxOf, Cx.nox]
    repeat walk_at "st"
    refine k_dnew fun D H1 hD e1 h1 => ?_
    repeat walk_at "st"
    refine k_fldE (e1.get hA1.ins) T.cls_Heap T.no_Heap_cells (hf_cells _ _ _) ?_
    have hz1 := e1.sqT hz
    repeat walk_at "st"
    refine for_it (walk_tup (xs := zs)) (fun i σ' H' => ∃ (kvs : List (L2.Key × V)) (v2 v3 v4 v5 : Option V), σ' = [some (.ref p), some (.ref D), v2, v3, v4, v5, none, none, none, none] ∧ Ex H H' ∧ H' D = some (.dK kvs) ∧ kvs.length ≤ i ∧ ShAt K H' kvs (cs.take i)) ⟨[], none, none, none, none, rfl, e1, h1, Nat.le_refl _, fun a => .inl ⟨rfl, rfl⟩⟩ (fun i σ' H' _ ⟨_, _, _, _, _, _, e, _⟩ => e.sqT hz)
      (fun i x σ' Hx H2 hi ⟨kvs, v2, v3, v4, v5, es, e2, h2, hkl, sh⟩ y => ?_) (fun σ' H2 ⟨kvs, v2, v3, v4, v5, es, e2, h2, hkl, sh⟩ => ?_)
    · subst es
      obtain ⟨rfl, y⟩ := y
      obtain ⟨c, hc⟩ : ∃ c, cs[i]? = some c := ⟨cs[i]'(by omega), List.getElem?_eq_getElem (by omega)⟩
      obtain ⟨q, hq, hsq⟩ := hzc i c hc
      rw [hq] at y
      cases y
      have hsq2 := e2.sqT hsq
      unfold fullT at hsq2
      have htk : cs.take (i + 1) = cs.take i ++ [c] := by rw [List.take_add_one, hc]; rfl
      have fin : ∀ (t : Addr) (H3 : Hp), Ex H2 H3 → SqT K H3 t ((inc (cs.take i) c.l ++ [c]).map fun c => V.int c.s) → ∀ H4, ExB D H3 H4 → H4 D = some (.dK (putK kvs (Sum.inl c.l) (.ref t))) →
          ∃ (kvs : List (L2.Key × V)) (v2 v3 v4 v5 : Option V), [some (.ref p), some (.ref D), some (.int c.a), some (.str c.m), some (.int c.l), some (.int c.s), none, none, none, none] = [some (.ref p), some (.ref D), v2, v3, v4, v5, none, none, none, none] ∧ Ex H H4 ∧ H4 D = some (.dK kvs) ∧ kvs.length ≤ i + 1 ∧ ShAt K H4 kvs (cs.take (i + 1)) := by
        intro t H3 e3 ht H4 b4 h4
        refine ⟨_, _, _, _, _, rfl, ExB.old (e2.trans e3) hD b4, h4, ?_, ?_⟩
        · have := length_putK kvs (Sum.inl c.l) (.ref t)
          omega
        · rw [htk]
          exact ShAt.put (e3.get h2) b4 (sh.ex e3) ht
      repeat walk_at "st"
      refine k_dget2 ?_
      repeat walk_at "st"
      refine ⟨D, rfl, .inl ⟨kvs, .inl h2⟩, ?_⟩
      repeat walk_at "st"
      intro t0 H3 ht0 e3 h3
      have h23 := e3.get h2
      refine k_dget2E (k := Sum.inl c.l) rfl (.inl h23) ?_
      rcases sh c.l with ⟨hi0, hv⟩ | ⟨t, hv, ht⟩
      · rw [hv]
        dsimp only [Option.getD]
        repeat walk_at "st"
        intro t1 H4 ht1 e4 h4
        refine k_catA (xs := []) (ys := [.int c.s]) (.inl (.inl (e4.get h3))) (.inl (.inl h4)) (by rw [sizeLine_eq]; simp) fun t2 H5 e5 h5 => ?_
        repeat walk_at "st"
        refine k_dputE (k := Sum.inl c.l) rfl ((e4.trans e5).get h23) (by rw [sizeLine_eq]; omega) fun H6 b6 h6 => ?_
        exact fin t2 H5 (e3.trans (e4.trans e5)) (by rw [hi0]; exact h5) H6 b6 h6
      · rw [hv]
        dsimp only [Option.getD]
        repeat walk_at "st"
        intro t1 H4 ht1 e4 h4
        have hil : (inc (cs.take i) c.l).length ≤ 60 := by
          have h1 := List.length_filter_le (fun d : Cell => decide (d.l = c.l)) (cs.take i)
          have h2 := List.length_take_le i cs
          have h3 : (inc (cs.take i) c.l).length ≤ (cs.take i).length := h1
          have h4 : (cs.take i).length ≤ cs.length := by rw [List.length_take]; omega
          omega
        refine k_catA ((e3.trans e4).sqT ht) (ys := [.int c.s]) (.inl (.inl h4)) (by rw [sizeLine_eq, List.length_map]; simp; omega) fun t2 H5 e5 h5 => ?_
        repeat walk_at "st"
        refine k_dputE (k := Sum.inl c.l) rfl ((e4.trans e5).get h23) (by rw [sizeLine_eq]; omega) fun H6 b6 h6 => ?_
        exact fin t2 H5 (e3.trans (e4.trans e5)) (by rw [List.map_append]; exact h5) H6 b6 h6
    · subst es
      rw [hzl, List.take_length] at sh
      repeat walk_at "st"
      refine k_fldE (e2.get hA1.ins) T.cls_Heap T.no_Heap_names (hf_names _ _ _) ?_
      have hy2 := e2.sqT hy
      repeat walk_at "st"
      refine lc_vals (walk_tup (xs := ys)) ns hyl.symm (by omega) (fun _ => true) (fun n => V.int n.2) (fun H' e => e.sqT hy2) (fun i n x H' H'' R1 R0 hn e y q1 q0 => ?_) (fun L H3 hL e3 h3 => ?_)
      · obtain ⟨rfl, y⟩ := y
        obtain ⟨q, hq, hsq⟩ := hyc i n hn
        rw [hq] at y
        cases y
        have hsq' := (e2.trans e).sqT hsq
        unfold nmT at hsq'
        repeat walk_at "st"
        refine ⟨rfl, ?_⟩
        repeat walk_at "st"
        exact q1 _ (Ex.refl _) rfl
      · rw [List.filter_eq_self.mpr fun _ _ => rfl] at h3
        have e03 := e2.trans e3
        repeat walk_at "st"
        refine k_dnew fun D2 H4 hD2 e4 h4 => ?_
        repeat walk_at "st"
        have e04 := e03.trans e4
        refine k_fldE (e04.get hA1.ins) T.cls_Heap T.no_Heap_cells (hf_cells _ _ _) ?_
        have hz4 := e04.sqT hz
        repeat walk_at "st"
        refine for_it (walk_tup (xs := zs)) (fun i σ' H' => ∃ (kvs2 : List (L2.Key × V)) (v2 v3 v4 v5 : Option V), σ' = [some (.ref p), some (.ref D), v2, v3, v4, v5, some (.ref L), none, none, some (.ref D2)] ∧ ExB D2 H4 H' ∧ H' D2 = some (.dK kvs2) ∧ kvs2.length ≤ i ∧ PlAt ns cs (cs.take i) kvs2) ⟨[], _, _, _, _, rfl, ExB.of (Ex.refl _), h4, Nat.le_refl _, fun a => ⟨(fun h => nomatch h), (fun ⟨_, _, h, _⟩ => nomatch h)⟩⟩ (fun i σ' H' _ ⟨_, _, _, _, _, _, b, _⟩ => sqT_exDk h4 b hz4)
          (fun i x σ' Hx H5 hi ⟨kvs2, v2, v3, v4, v5, es, b5, h5, hkl2, pl⟩ y => ?_) (fun σ' H5 ⟨kvs2, v2, v3, v4, v5, es, b5, h5, hkl2, pl⟩ => ?_)
        · subst es
          obtain ⟨rfl, y⟩ := y
          obtain ⟨c, hc⟩ : ∃ c, cs[i]? = some c := ⟨cs[i]'(by omega), List.getElem?_eq_getElem (by omega)⟩
          obtain ⟨q, hq, hsq⟩ := hzc i c hc
          rw [hq] at y
          cases y
          have e05 : Ex H H5 := ExB.old e04 (e03.none hD2) b5
          have hsq5 := e05.sqT hsq
          unfold fullT at hsq5
          have htk : cs.take (i + 1) = cs.take i ++ [c] := by rw [List.take_add_one, hc]; rfl
          have hcc := cell_mem hA1.co (List.mem_of_getElem? hc)
          have off : plainB ns cs c.a = false → ∀ H6, ExB D2 H5 H6 → H6 D2 = some (.dK kvs2) → ∃ (kvs2 : List (L2.Key × V)) (v2 v3 v4 v5 : Option V), [some (.ref p), some (.ref D), some (.int c.a), some (.str c.m), some (.int c.l), some (.int c.s), some (.ref L), none, none, some (.ref D2)] = [some (.ref p), some (.ref D), v2, v3, v4, v5, some (.ref L), none, none, some (.ref D2)] ∧ ExB D2 H4 H6 ∧ H6 D2 = some (.dK kvs2) ∧ kvs2.length ≤ i + 1 ∧ PlAt ns cs (cs.take (i + 1)) kvs2 := by
            intro hp H6 b6 h6
            refine ⟨_, _, _, _, _, rfl, b5.trans b6, h6, by omega, fun a => ?_⟩
            rw [htk, pl a]
            constructor
            · rintro ⟨p1, c', h1, h2⟩
              exact ⟨p1, c', List.mem_append_left _ h1, h2⟩
            · rintro ⟨p1, c', h1, h2⟩
              rcases List.mem_append.mp h1 with h1 | h1
              · exact ⟨p1, c', h1, h2⟩
              · rw [List.mem_singleton.mp h1] at h2
                rw [← h2, hp] at p1
                cases p1
          have hpi := plain_iff (ns := ns) hcc
          have nLD : L ≠ D2 := fun z => by rw [z, hD2] at h3; cases h3
          have hL5 : H5 L = some (.lst (ns.map fun n => V.int n.2)) := b5 _ _ nLD (e4.get h3)
          have hL6 : SqL K H5 L ((ns.map (·.2)).map V.int) ∨ SqT K H5 L ((ns.map (·.2)).map V.int) := .inl (.inl (.inl (by rw [hL5, List.map_map]; rfl)))
          have nDD : D ≠ D2 := fun z => by rw [z] at h2; rw [e3.get h2] at hD2; cases hD2
          have hD5 : H5 D = some (.dK kvs) := b5 _ _ nDD ((e3.trans e4).get h2)
          repeat walk_at "st"
          refine k_in hL6 rfl (by simp [flatV]) ?_
          rw [if_pos rfl, inV_int]
          by_cases hin : c.a ∈ ns.map (·.2)
          · rw [decide_eq_true hin]
            repeat walk_at "st"
            rw [decide_eq_false (not_not_intro hin)] at hpi
            exact off hpi _ (ExB.of (Ex.refl _)) h5
          · rw [decide_eq_false hin]
            rw [decide_eq_true hin, Bool.true_and] at hpi
            repeat walk_at "st"
            refine ⟨D, rfl, .inl ⟨kvs, .inl hD5⟩, ?_⟩
            repeat walk_at "st"
            refine k_dget2E (k := Sum.inl c.a) rfl (.inl hD5) ?_
            rcases sh c.a with ⟨hi0, hv⟩ | ⟨t, hv, ht⟩
            · rw [hv]
              dsimp only [Option.getD]
              repeat walk_at "st"
              intro t1 H6 ht1 e6 h6
              refine ⟨.none, .tuple ([c.s].map PyData.int), .non, .tup (.inl (.inl h6)) (dp_intsA [c.s]), rfl, shp_intsT [c.s], ?_⟩
              rw [hi0] at hpi
              repeat walk_at "st"
              exact off (hpi.trans rfl) _ (ExB.of e6) (e6.get h5)
            · rw [hv]
              dsimp only [Option.getD]
              repeat walk_at "st"
              intro t1 H6 ht1 e6 h6
              have ht6 : SqT K H6 t (((inc cs c.a).map (·.s)).map V.int) := by
                rw [List.map_map]
                exact e6.sqT (sqT_exDk h4 b5 ((e3.trans e4).sqT ht))
              refine k_eqIT (ys := [c.s]) ht6 (.inl (.inl h6)) ?_
              by_cases hs : (inc cs c.a).map (·.s) = [c.s]
              · rw [decide_eq_true hs] at hpi ⊢
                repeat walk_at "st"
                refine k_dputE (k := Sum.inl c.a) rfl (e6.get h5) (by rw [sizeLine_eq]; omega) fun H7 b7 h7 => ?_
                refine ⟨_, _, _, _, _, rfl, b5.trans ((ExB.of e6).trans b7), h7, ?_, fun a => ?_⟩
                · have := length_putK kvs2 (Sum.inl c.a) (.bl true)
                  omega
                · rw [htk, valV_put]
                  by_cases ea : a = c.a
                  · rw [if_pos (by rw [ea]), ea]
                    exact ⟨fun _ => ⟨hpi, c, List.mem_append_right _ (List.mem_singleton.mpr rfl), rfl⟩, fun _ => rfl⟩
                  · rw [if_neg (fun z => ea (Sum.inl.inj z)), pl a]
                    constructor
                    · rintro ⟨p1, c', h1, h2⟩
                      exact ⟨p1, c', List.mem_append_left _ h1, h2⟩
                    · rintro ⟨p1, c', h1, h2⟩
                      rcases List.mem_append.mp h1 with h1 | h1
                      · exact ⟨p1, c', h1, h2⟩
                      · rw [List.mem_singleton.mp h1] at h2
                        exact absurd h2.symm ea
              · rw [decide_eq_false hs] at hpi ⊢
                repeat walk_at "st"
                exact off hpi _ (ExB.of e6) (e6.get h5)
        · subst es
          repeat walk_at "st"
          refine k _ D2 kvs2 (ExB.old e04 (e03.none hD2) b5) h5 fun a => ?_
          rw [hzl, List.take_length] at pl
          have := pl a
          cases hp : plainB ns cs a with
          | true =>
            obtain ⟨c, hc, _⟩ := plain_cell hp
            obtain ⟨q1, q2⟩ := cell_key hc
            exact this.mpr ⟨hp, c, q1, q2⟩
          | false =>
            cases hv : (valV kvs2 (Sum.inl a)).isSome with
            | false => rfl
            | true =>
              rw [hv, hp] at this
              exact (this.mp rfl).1.symm ▸ rfl
end


/-! ### heaps alike up to addresses: no program in sight -/
structure Iso (ns ms : List (Str × Int)) (cs ds : List Cell) (R : Int → Int → Prop) : Prop where
  zero : R 0 0
  fn : ∀ x y y', R x y → R x y' → y = y'
  inj : ∀ x x' y, R x y → R x' y → x = x'
  names : ns.map (·.1) = ms.map (·.1)
  val : ∀ n m, n ∈ ns → m ∈ ms → n.1 = m.1 → R n.2 m.2
  next : ∀ x y, R x y → (cellOf cs x = none ∧ cellOf ds y = none) ∨ ∃ c d, cellOf cs x = some c ∧ cellOf ds y = some d ∧ c.m = d.m ∧ c.s = d.s ∧ R c.l d.l
def Alike (ns ms : List (Str × Int)) (cs ds : List Cell) : Prop := ∃ R, Iso ns ms cs ds R
section
variable {ns ms : List (Str × Int)} {cs ds : List Cell} {R : Int → Int → Prop}
theorem Iso.symm (I : Iso ns ms cs ds R) : Iso ms ns ds cs (fun y x => R x y) :=
  ⟨I.zero, fun x y y' h h' => I.inj y y' x h h', fun x x' y h h' => I.fn y x x' h h', I.names.symm, fun n m hn hm e => I.val m n hm hn e.symm, fun x y h => by
    rcases I.next y x h with ⟨h1, h2⟩ | ⟨c, d, h1, h2, h3, h4, h5⟩
    · exact .inl ⟨h2, h1⟩
    · exact .inr ⟨d, c, h2, h1, h3.symm, h4.symm, h5⟩⟩
theorem Iso.mate (I : Iso ns ms cs ds R) {n : Str × Int} (hn : n ∈ ns) : ∃ m ∈ ms, m.1 = n.1 ∧ R n.2 m.2 := by
  have h : n.1 ∈ ms.map (·.1) := by rw [← I.names]; exact List.mem_map_of_mem hn
  obtain ⟨m, hm, e⟩ := List.mem_map.mp h
  exact ⟨m, hm, e, I.val n m hn hm e.symm⟩
theorem Iso.reach (I : Iso ns ms cs ds R) {a : Int} (r : Reach ns cs a) : ∃ b, R a b := by
  induction r with
  | base n hn => obtain ⟨m, _, _, h⟩ := I.mate hn; exact ⟨m.2, h⟩
  | step a c _ hc ih =>
    obtain ⟨b, hb⟩ := ih
    rcases I.next a b hb with ⟨h1, _⟩ | ⟨c', d, h1, _, _, _, h5⟩
    · rw [h1] at hc; cases hc
    · rw [h1] at hc
      cases hc
      exact ⟨d.l, h5⟩
/-- a cell's mate -/
theorem Iso.cell (I : Iso ns ms cs ds R) (co : CsOk cs) (hr : ∀ c ∈ cs, Reach ns cs c.a) {c : Cell} (hc : c ∈ cs) : ∃ d ∈ ds, R c.a d.a ∧ c.m = d.m ∧ c.s = d.s ∧ R c.l d.l := by
  obtain ⟨b, hb⟩ := I.reach (hr c hc)
  have h := cell_mem co hc
  rcases I.next c.a b hb with ⟨h1, _⟩ | ⟨c', d, h1, h2, h3, h4, h5⟩
  · rw [h1] at h; cases h
  · rw [h1] at h
    cases h
    obtain ⟨k1, k2⟩ := cell_key h2
    exact ⟨d, k1, by rw [k2]; exact hb, h3, h4, h5⟩
theorem Iso.len_le (I : Iso ns ms cs ds R) (co : CsOk cs) (hr : ∀ c ∈ cs, Reach ns cs c.a) : cs.length ≤ ds.length := by
  have aux : ∀ (l : List Cell) (es : List Cell), (∀ c ∈ l, c ∈ cs) → l.Pairwise (fun x y => x.a < y.a) → (∀ c ∈ l, ∃ d ∈ es, R c.a d.a) → l.length ≤ es.length := by
    intro l
    induction l with
    | nil => intro es _ _ _; exact Nat.zero_le _
    | cons c l ih =>
      intro es hm hp he
      obtain ⟨d, hd, hR⟩ := he c List.mem_cons_self
      have hp2 := List.pairwise_cons.mp hp
      have := ih (es.erase d) (fun x hx => hm x (List.mem_cons_of_mem _ hx)) hp2.2 fun x hx => by
        obtain ⟨e, he1, he2⟩ := he x (List.mem_cons_of_mem _ hx)
        refine ⟨e, (List.mem_erase_of_ne fun z => ?_).mpr he1, he2⟩
        rw [z] at he2
        have h1 := I.inj _ _ _ hR he2
        have h2 := hp2.1 x hx
        omega
      rw [List.length_erase_of_mem hd] at this
      have hpos := List.length_pos_of_mem hd
      rw [List.length_cons]
      omega
  exact aux cs ds (fun _ h => h) co fun c hc => let ⟨d, h1, h2, _⟩ := I.cell co hr hc; ⟨d, h1, h2⟩
theorem Iso.len (I : Iso ns ms cs ds R) (co : CsOk cs) (do_ : CsOk ds) (hr : ∀ c ∈ cs, Reach ns cs c.a) (hs : ∀ c ∈ ds, Reach ms ds c.a) : cs.length = ds.length :=
  Nat.le_antisymm (I.len_le co hr) (I.symm.len_le do_ hs)
theorem Iso.plain1 (I : Iso ns ms cs ds R) (co : CsOk cs) (do_ : CsOk ds) (hr : ∀ c ∈ cs, Reach ns cs c.a) (hs : ∀ c ∈ ds, Reach ms ds c.a) {x y : Int} (h : R x y) (hp : plainB ns cs x = true) : plainB ms ds y = true := by
  obtain ⟨c, e, hc, hi, hsh⟩ := plain_inc hp
  obtain ⟨_, _, hn, _⟩ := plain_cell hp
  rcases I.next x y h with ⟨h1, _⟩ | ⟨c', d, h1, h2, h3, h4, h5⟩
  · rw [h1] at hc; cases hc
  · rw [h1] at hc
    cases hc
    have he := mem_inc.mp (by rw [hi]; exact List.mem_singleton.mpr rfl : e ∈ inc cs x)
    obtain ⟨g, hg, hga, _, hgs, hgl⟩ := I.cell co hr he.1
    have hgy : g.l = y := I.fn x g.l y (by rw [← he.2]; exact hgl) h
    refine plain_of h2 (fun m hm em => ?_) (d := g) ?_ (by rw [← hgs, hsh, h4])
    · obtain ⟨n, hn1, en, hR⟩ := I.symm.mate hm
      have : n.2 = x := I.inj n.2 x y (by rw [← em]; exact hR) h
      exact hn n hn1 this
    · refine filter_eq_one do_.nodup hg (decide_eq_true hgy) fun k hk pk => ?_
      have hkl := of_decide_eq_true pk
      obtain ⟨j, hj, hja, _, _, hjl⟩ := I.symm.cell do_ hs hk
      have hjx : j.l = x := I.inj j.l x y (by rw [← hkl]; exact hjl) h
      have hje : j = e := plain_uni hp hj he.1 hjx he.2
      rw [hje] at hja
      have hka : k.a = g.a := I.fn e.a k.a g.a hja hga
      have h1 := cell_mem do_ hk
      have h2 := cell_mem do_ hg
      rw [hka] at h1
      rw [h1] at h2
      exact Option.some.inj h2
theorem Iso.plain (I : Iso ns ms cs ds R) (co : CsOk cs) (do_ : CsOk ds) (hr : ∀ c ∈ cs, Reach ns cs c.a) (hs : ∀ c ∈ ds, Reach ms ds c.a) {x y : Int} (h : R x y) : plainB ns cs x = plainB ms ds y := by
  cases h1 : plainB ns cs x with
  | true => exact (I.plain1 co do_ hr hs h h1).symm
  | false =>
    cases h2 : plainB ms ds y with
    | false => rfl
    | true =>
      have := I.symm.plain1 do_ co hs hr h h2
      rw [h1] at this
      cases this
theorem Iso.seg (I : Iso ns ms cs ds R) (co : CsOk cs) (do_ : CsOk ds) (hr : ∀ c ∈ cs, Reach ns cs c.a) (hs : ∀ c ∈ ds, Reach ms ds c.a) : ∀ (k : Nat) (c d : Cell), c.m = d.m → R c.l d.l →
    (seg (plainB ns cs) (cellOf cs) k c).map (·.m) = (seg (plainB ms ds) (cellOf ds) k d).map (·.m) ∧ R (segZ (plainB ns cs) (cellOf cs) k c).l (segZ (plainB ms ds) (cellOf ds) k d).l
  | 0, c, d, hm, hl => ⟨by show [c.m] = [d.m]; rw [hm], hl⟩
  | k + 1, c, d, hm, hl => by
    have hp := I.plain co do_ hr hs hl
    cases h1 : plainB ns cs c.l with
    | true =>
      rw [h1] at hp
      obtain ⟨c', hc', _⟩ := plain_cell h1
      obtain ⟨d', hd', _⟩ := plain_cell hp.symm
      obtain ⟨a1, a2⟩ := seg_step (pl := plainB ns cs) (f := cellOf cs) h1 hc' k
      obtain ⟨b1, b2⟩ := seg_step (pl := plainB ms ds) (f := cellOf ds) hp.symm hd' k
      rcases I.next _ _ hl with ⟨q, _⟩ | ⟨x, y, q1, q2, q3, q4, q5⟩
      · rw [q] at hc'; cases hc'
      · rw [hc'] at q1
        rw [hd'] at q2
        cases q1
        cases q2
        obtain ⟨i1, i2⟩ := I.seg co do_ hr hs k c' d' q3 q5
        rw [a1, a2, b1, b2, List.map_cons, List.map_cons, hm, i1]
        exact ⟨rfl, i2⟩
    | false =>
      rw [h1] at hp
      obtain ⟨a1, a2⟩ := seg_stop (pl := plainB ns cs) (f := cellOf cs) h1 (k + 1)
      obtain ⟨b1, b2⟩ := seg_stop (pl := plainB ms ds) (f := cellOf ds) hp.symm (k + 1)
      rw [a1, a2, b1, b2]
      exact ⟨by show [c.m] = [d.m]; rw [hm], hl⟩
end


/-! ### alike heaps are written alike -/
/-- the end of both loops -/
structure Done (ns : List (Str × Int)) (cs : List Cell) (k : Nat) : Prop where
  n : (stB ns cs k).outs.length = k
  s : (stB ns cs k).os.length = k + 1
def LR (R : Int → Int → Prop) (l m : List Int) : Prop := l.length = m.length ∧ ∀ (i : Nat) (x y : Int), l[i]? = some x → m[i]? = some y → R x y
theorem LR.get {R : Int → Int → Prop} {l m : List Int} (h : LR R l m) {i : Nat} {x : Int} (hx : l[i]? = some x) : ∃ y, m[i]? = some y ∧ R x y := by
  obtain ⟨hi, _⟩ := List.getElem?_eq_some_iff.mp hx
  obtain ⟨y, hy⟩ : ∃ y, m[i]? = some y := ⟨m[i]'(by rw [← h.1]; exact hi), List.getElem?_eq_getElem _⟩
  exact ⟨y, hy, h.2 i x y hx hy⟩
theorem LR.symm {R : Int → Int → Prop} {l m : List Int} (h : LR R l m) : LR (fun y x => R x y) m l := ⟨h.1.symm, fun i x y hx hy => h.2 i y x hy hx⟩
theorem LR.snoc {R : Int → Int → Prop} {l m : List Int} (h : LR R l m) {x y : Int} (hr : R x y) : LR R (l ++ [x]) (m ++ [y]) := by
  refine ⟨by rw [List.length_append, List.length_append, h.1]; rfl, fun i a b ha hb => ?_⟩
  have hl := h.1
  by_cases hi : i < l.length
  · rw [List.getElem?_append_left hi] at ha
    rw [List.getElem?_append_left (by omega)] at hb
    exact h.2 i a b ha hb
  · rw [List.getElem?_append_right (by omega)] at ha
    rw [List.getElem?_append_right (by omega)] at hb
    have e1 : i - l.length = 0 := by
      have := (List.getElem?_eq_some_iff.mp ha).1
      simp at this
      omega
    rw [e1] at ha
    rw [show i - m.length = 0 by omega] at hb
    cases ha
    cases hb
    exact hr
section
variable {ns ms : List (Str × Int)} {cs ds : List Cell} {R : Int → Int → Prop}
theorem Iso.mem (I : Iso ns ms cs ds R) {l m : List Int} (h : LR R l m) {x y : Int} (hr : R x y) : x ∈ l ↔ y ∈ m := by
  constructor
  · intro hx
    obtain ⟨i, hi⟩ := List.mem_iff_getElem?.mp hx
    obtain ⟨z, hz, hR⟩ := h.get hi
    rw [I.fn x y z hr hR]
    exact List.mem_of_getElem? hz
  · intro hy
    obtain ⟨i, hi⟩ := List.mem_iff_getElem?.mp hy
    obtain ⟨z, hz, hR⟩ := h.symm.get hi
    rw [I.inj x z y hr hR]
    exact List.mem_of_getElem? hz
theorem Iso.addO (I : Iso ns ms cs ds R) {l m : List Int} (h : LR R l m) {x y : Int} (hr : R x y) : LR R (Lw.addO l x) (Lw.addO m y) := by
  unfold Lw.addO
  by_cases hx : x ∈ l
  · rw [if_pos hx, if_pos ((I.mem h hr).mp hx)]
    exact h
  · rw [if_neg hx, if_neg (fun z => hx ((I.mem h hr).mpr z))]
    exact h.snoc hr
theorem Iso.idx (I : Iso ns ms cs ds R) {l m : List Int} (h : LR R l m) (hm : m.Nodup) {x y : Int} (hr : R x y) (hx : x ∈ l) : l.idxOf x = m.idxOf y := by
  obtain ⟨z, hz, hR⟩ := h.get (get_idx hx)
  have : z = y := I.fn x z y hR hr
  rw [this] at hz
  exact (idx_get hm hz).symm
theorem Iso.fold (I : Iso ns ms cs ds R) : ∀ (u v : List Int) (l m : List Int), LR R u v → LR R l m → LR R (foldO l u) (foldO m v)
  | [], [], _, _, _, h => h
  | [], _ :: _, _, _, q, _ => nomatch q.1
  | _ :: _, [], _, _, q, _ => nomatch q.1
  | x :: u, y :: v, l, m, q, h => I.fold u v _ _ ⟨by have := q.1; simpa using this, fun i a b ha hb => q.2 (i + 1) a b ha hb⟩ (I.addO h (q.2 0 x y rfl rfl))
theorem Iso.vals (I : Iso ns ms cs ds R) : LR R (ns.map (·.2)) (ms.map (·.2)) := by
  have hl : ns.length = ms.length := by
    have := congrArg List.length I.names
    rwa [List.length_map, List.length_map] at this
  refine ⟨by rw [List.length_map, List.length_map, hl], fun i x y hx hy => ?_⟩
  rw [List.getElem?_map] at hx hy
  obtain ⟨n, hn, rfl⟩ := Option.map_eq_some_iff.mp hx
  obtain ⟨m, hm, rfl⟩ := Option.map_eq_some_iff.mp hy
  refine I.val n m (List.mem_of_getElem? hn) (List.mem_of_getElem? hm) ?_
  have h1 : (ns.map (·.1))[i]? = some n.1 := by rw [List.getElem?_map, hn]; rfl
  rw [I.names, List.getElem?_map, hm] at h1
  exact (Option.some.inj h1).symm
structure StR (R : Int → Int → Prop) (b b' : Bf) : Prop where
  os : LR R b.os b'.os
  outs : b.outs = b'.outs
  words : b.words = b'.words
theorem StR.step (I : Iso ns ms cs ds R) (co : CsOk cs) (do_ : CsOk ds) (hr : ∀ c ∈ cs, Reach ns cs c.a) (hs : ∀ c ∈ ds, Reach ms ds c.a) {b b' : Bf} (hn : b'.os.Nodup) (h : StR R b b') : StR R (stepB ns cs b) (stepB ms ds b') := by
  have hl := h.os.1
  have ho := congrArg List.length h.outs
  by_cases hlt : b.outs.length + 1 < b.os.length
  · obtain ⟨q, hq⟩ : ∃ q, b.os[b.outs.length + 1]? = some q := ⟨_, List.getElem?_eq_getElem hlt⟩
    obtain ⟨q', hq', hR⟩ := h.os.get hq
    rw [ho] at hq'
    rcases step_is (ns := ns) (cs := cs) hq with ⟨hc, e⟩ | ⟨c, hc, e⟩
    · rcases I.next q q' hR with ⟨_, h2⟩ | ⟨c', d, h1, _⟩
      · rcases step_is (ns := ms) (cs := ds) hq' with ⟨_, e'⟩ | ⟨d, hd, _⟩
        · rw [e, e']
          exact ⟨h.os, by dsimp only; rw [h.outs], h.words⟩
        · rw [h2] at hd; cases hd
      · rw [h1] at hc; cases hc
    · rcases I.next q q' hR with ⟨h1, _⟩ | ⟨c', d, h1, h2, h3, h4, h5⟩
      · rw [h1] at hc; cases hc
      · rw [h1] at hc
        cases hc
        rcases step_is (ns := ms) (cs := ds) hq' with ⟨hd, _⟩ | ⟨d', hd, e'⟩
        · rw [h2] at hd; cases hd
        · rw [h2] at hd
          cases hd
          have hlen := I.len co do_ hr hs
          obtain ⟨s1, s2⟩ := I.seg co do_ hr hs cs.length c d h3 h5
          have s1' : (segL ns cs c).map (·.m) = (segL ms ds d).map (·.m) := by
            show _ = (seg (plainB ms ds) (cellOf ds) ds.length d).map (·.m)
            rw [← hlen]
            exact s1
          have s2' : R (goalC ns cs c) (goalC ms ds d) := by
            show R _ (segZ (plainB ms ds) (cellOf ds) ds.length d).l
            rw [← hlen]
            exact s2
          rw [e, e']
          refine ⟨I.addO h.os s2', ?_, ?_⟩
          · dsimp only
            rw [h.outs, h4, I.idx (I.addO h.os s2') (addO_nodup hn) s2' (addO_mem.mpr (.inr rfl))]
          · dsimp only
            unfold marksOf
            rw [h.words, s1']
  · have e1 : stepB ns cs b = b := by
      unfold stepB
      rw [List.getElem?_eq_none (by omega)]
    have e2 : stepB ms ds b' = b' := by
      unfold stepB
      rw [List.getElem?_eq_none (by omega)]
    rw [e1, e2]
    exact h
theorem StR.at (I : Iso ns ms cs ds R) (co : CsOk cs) (do_ : CsOk ds) (h0 : ∀ c ∈ ds, c.a ≠ 0) (hr : ∀ c ∈ cs, Reach ns cs c.a) (hs : ∀ c ∈ ds, Reach ms ds c.a) : ∀ k, StR R (stB ns cs k) (stB ms ds k)
  | 0 => ⟨I.fold _ _ _ _ I.vals ⟨rfl, fun i x y hx hy => by
      have e : i = 0 := by
        have := (List.getElem?_eq_some_iff.mp hx).1
        simp at this
        omega
      subst e
      cases hx
      cases hy
      exact I.zero⟩, rfl, rfl⟩
  | k + 1 => (StR.at I co do_ h0 hr hs k).step I co do_ hr hs (BOk.at (ns := ms) do_ h0 k).nd
/-- what stands in the written form -/
structure FormEq (ns ms : List (Str × Int)) (b b' : Bf) : Prop where
  names : ns.map (·.1) = ms.map (·.1)
  at_ : atOf ns b.os = atOf ms b'.os
  outs : b.outs = b'.outs
  words : b.words = b'.words
theorem iso_form (I : Iso ns ms cs ds R) (co : CsOk cs) (do_ : CsOk ds) (h0 : ∀ c ∈ cs, c.a ≠ 0) (h1 : ∀ c ∈ ds, c.a ≠ 0) (hr : ∀ c ∈ cs, Reach ns cs c.a) (hs : ∀ c ∈ ds, Reach ms ds c.a) {k j : Nat} (dk : Done ns cs k) (dj : Done ms ds j) : FormEq ns ms (stB ns cs k) (stB ms ds j) := by
  have S := StR.at I co do_ h1 hr hs k
  have e : stB ms ds k = stB ms ds j := by
    refine end_eq do_ h1 ?_ (by rw [dj.n]; exact dj.s)
    have a1 := S.os.1
    have a2 := congrArg List.length S.outs
    have a3 := dk.n
    have a4 := dk.s
    omega
  rw [← e]
  refine ⟨I.names, ?_, S.outs, S.words⟩
  have V := I.vals
  refine List.ext_getElem? fun i => ?_
  unfold atOf
  rw [List.getElem?_map, List.getElem?_map]
  have hl := V.1
  rw [List.length_map, List.length_map] at hl
  by_cases hi : i < ns.length
  · have hn : ns[i]? = some ns[i] := List.getElem?_eq_getElem hi
    have hm : ms[i]? = some (ms[i]'(by omega)) := List.getElem?_eq_getElem (by omega)
    have hR := V.2 i ns[i].2 (ms[i]'(by omega)).2 (by rw [List.getElem?_map, hn]; rfl) (by rw [List.getElem?_map, hm]; rfl)
    rw [hn, hm]
    show some _ = some _
    dsimp only
    rw [I.idx S.os (BOk.at (ns := ms) do_ h1 k).nd hR ((BOk.at (ns := ns) co h0 k).nm _ (List.mem_of_getElem? hn))]
  · rw [List.getElem?_eq_none (by omega), List.getElem?_eq_none (by omega)]
    rfl
end


/-! ### written alike: alike heaps -/
theorem seg_pred {ns : List (Str × Int)} {cs : List Cell} : ∀ (k : Nat) (c : Cell) (j : Nat) (e : Cell), (seg (plainB ns cs) (cellOf cs) k c)[j + 1]? = some e → ∃ p, (seg (plainB ns cs) (cellOf cs) k c)[j]? = some p ∧ cellOf cs p.l = some e ∧ plainB ns cs p.l = true
  | 0, c, j, e, h => by
    simp [seg] at h
  | k + 1, c, j, e, h => by
    cases hp : plainB ns cs c.l with
    | true =>
      obtain ⟨d, hd, _⟩ := plain_cell hp
      obtain ⟨e1, _⟩ := seg_step (pl := plainB ns cs) (f := cellOf cs) hp hd k
      rw [e1] at h ⊢
      rw [List.getElem?_cons_succ] at h
      cases j with
      | zero =>
        refine ⟨c, rfl, ?_, hp⟩
        have h0 : (seg (plainB ns cs) (cellOf cs) k d)[0]? = some d := by
          cases k with
          | zero => rfl
          | succ k =>
            unfold seg
            split
            · split <;> rfl
            · rfl
        rw [h0] at h
        cases h
        exact hd
      | succ j =>
        obtain ⟨p, h1, h2, h3⟩ := seg_pred k d j e h
        exact ⟨p, by rw [List.getElem?_cons_succ]; exact h1, h2, h3⟩
    | false =>
      obtain ⟨e1, _⟩ := seg_stop (pl := plainB ns cs) (f := cellOf cs) hp (k + 1)
      rw [e1] at h
      simp at h
theorem seg_zero {pl : Int → Bool} {f : Int → Option Cell} (k : Nat) (c : Cell) : (seg pl f k c)[0]? = some c := by
  cases k with
  | zero => rfl
  | succ k =>
    unfold seg
    split
    · split <;> rfl
    · rfl
/-- the place of an address: the spot's number, the steps along its segment -/
def Pos (ns : List (Str × Int)) (cs : List Cell) (b : Bf) (x : Int) (i j : Nat) : Prop := ∃ q, b.os[i]? = some q ∧ ((j = 0 ∧ x = q) ∨ ∃ c e, cellOf cs q = some c ∧ 0 < j ∧ (segL ns cs c)[j]? = some e ∧ e.a = x)
section
variable {ns ms : List (Str × Int)} {cs ds : List Cell} {b b' : Bf}
theorem Pos.fn {x y : Int} {i j : Nat} (h : Pos ns cs b x i j) (k : Pos ns cs b y i j) : x = y := by
  obtain ⟨q, hq, h⟩ := h
  obtain ⟨r, hr, k⟩ := k
  rw [hq] at hr
  cases hr
  rcases h with ⟨h1, h2⟩ | ⟨c, e, h1, h2, h3, h4⟩
  · rcases k with ⟨_, k2⟩ | ⟨_, _, _, k2, _⟩
    · rw [h2, k2]
    · omega
  · rcases k with ⟨k1, _⟩ | ⟨c', e', k1, k2, k3, k4⟩
    · omega
    · rw [h1] at k1
      cases k1
      rw [h3] at k3
      cases k3
      rw [← h4, k4]
/-- behind a spot: a plain cell, and where it is reached from -/
theorem Pos.pred {x : Int} {i j : Nat} (h : Pos ns cs b x i (j + 1)) : plainB ns cs x = true ∧ ∃ p, cellOf cs p.a = some p ∧ p.l = x ∧ Pos ns cs b p.a i j ∧ ∃ q c, b.os[i]? = some q ∧ cellOf cs q = some c ∧ (segL ns cs c)[j]? = some p := by
  obtain ⟨q, hq, ⟨h1, _⟩ | ⟨c, e, h1, _, h3, h4⟩⟩ := h
  · cases h1
  · obtain ⟨p, p1, p2, p3⟩ := seg_pred _ _ _ _ h3
    have hx : p.l = x := by rw [← h4]; exact (cell_key p2).2.symm
    have hpc : cellOf cs p.a = some p := by
      cases j with
      | zero =>
        have := seg_zero (pl := plainB ns cs) (f := cellOf cs) cs.length c
        have p1' : (segL ns cs c)[0]? = some p := p1
        rw [this] at p1'
        cases p1'
        rw [(cell_key h1).2]
        exact h1
      | succ j =>
        obtain ⟨p', _, q2, _⟩ := seg_pred _ _ _ _ p1
        have := (cell_key q2).2
        rw [this]
        exact q2
    refine ⟨hx ▸ p3, p, hpc, hx, ⟨q, hq, ?_⟩, q, c, hq, h1, p1⟩
    cases j with
    | zero =>
      have := seg_zero (pl := plainB ns cs) (f := cellOf cs) cs.length c
      have p1' : (segL ns cs c)[0]? = some p := p1
      rw [this] at p1'
      cases p1'
      exact .inl ⟨rfl, (cell_key h1).2⟩
    | succ j => exact .inr ⟨c, p, h1, Nat.succ_pos _, p1, rfl⟩
theorem Pos.uniq (co : CsOk cs) (h0 : ∀ c ∈ cs, c.a ≠ 0) (o : BOk ns cs b) : ∀ (j j' : Nat) (x : Int) (i i' : Nat), Pos ns cs b x i j → Pos ns cs b x i' j' → i = i' ∧ j = j'
  | 0, 0, x, i, i', h, k => by
    obtain ⟨q, hq, ⟨_, h1⟩ | ⟨_, _, _, h2, _⟩⟩ := h
    · obtain ⟨r, hr, ⟨_, k1⟩ | ⟨_, _, _, k2, _⟩⟩ := k
      · rw [← h1] at hq
        rw [← k1] at hr
        have a1 := idx_get o.nd hq
        have a2 := idx_get o.nd hr
        exact ⟨by omega, rfl⟩
      · omega
    · omega
  | 0, j' + 1, x, i, i', h, k => by
    obtain ⟨q, hq, ⟨_, h1⟩ | ⟨_, _, _, h2, _⟩⟩ := h
    · have hs := spot_plain co h0 (o.sp q (List.mem_of_getElem? hq))
      rw [← h1, k.pred.1] at hs
      cases hs
    · omega
  | j + 1, 0, x, i, i', h, k => by
    obtain ⟨q, hq, ⟨_, h1⟩ | ⟨_, _, _, h2, _⟩⟩ := k
    · have hs := spot_plain co h0 (o.sp q (List.mem_of_getElem? hq))
      rw [← h1, h.pred.1] at hs
      cases hs
    · omega
  | j + 1, j' + 1, x, i, i', h, k => by
    obtain ⟨hp, p, p1, p2, p3, _⟩ := h.pred
    obtain ⟨_, r, r1, r2, r3, _⟩ := k.pred
    have e : p = r := plain_uni hp (cell_key p1).1 (cell_key r1).1 p2 r2
    rw [← e] at r3
    obtain ⟨a1, a2⟩ := Pos.uniq co h0 o j j' p.a i i' p3 r3
    exact ⟨a1, by omega⟩
end


/-! ### the words, and back from the written form -/
def wordF (ns : List (Str × Int)) (cs : List Cell) (os : List Int) (i : Nat) : Option Str := (os[i + 1]?.bind (cellOf cs)).map fun c => marksOf (segL ns cs c)
theorem fm_congr {α β : Type} {f g : α → Option β} : ∀ {l : List α}, (∀ x ∈ l, f x = g x) → l.filterMap f = l.filterMap g
  | [], _ => rfl
  | x :: l, h => by
    have h1 := h x List.mem_cons_self
    have h2 := fm_congr (l := l) fun y hy => h y (List.mem_cons_of_mem _ hy)
    cases hf : f x with
    | none => rw [List.filterMap_cons_none hf, List.filterMap_cons_none (h1 ▸ hf), h2]
    | some z => rw [List.filterMap_cons_some hf, List.filterMap_cons_some (h1 ▸ hf), h2]
theorem fm_inj {β : Type} {f g : Nat → Option β} : ∀ n, (∀ i, i < n → (f i).isSome = (g i).isSome) → (List.range n).filterMap f = (List.range n).filterMap g → ∀ i, i < n → f i = g i
  | 0, _, _, i, hi => absurd hi (Nat.not_lt_zero _)
  | n + 1, hs, h, i, hi => by
    rw [List.range_succ, List.filterMap_append, List.filterMap_append] at h
    have hn := hs n (Nat.lt_succ_self n)
    have key : (List.range n).filterMap f = (List.range n).filterMap g ∧ f n = g n := by
      cases hf : f n with
      | none =>
        rw [hf] at hn
        cases hg : g n with
        | none =>
          rw [List.filterMap_cons_none hf, List.filterMap_cons_none hg] at h
          exact ⟨by simpa using h, rfl⟩
        | some y => rw [hg] at hn; cases hn
      | some x =>
        rw [hf] at hn
        cases hg : g n with
        | none => rw [hg] at hn; cases hn
        | some y =>
          rw [List.filterMap_cons_some hf, List.filterMap_cons_some hg] at h
          obtain ⟨h1, h2⟩ := List.append_inj' h rfl
          exact ⟨h1, by rw [(List.cons.inj h2).1]⟩
    by_cases e : i = n
    · rw [e]; exact key.2
    · exact fm_inj n (fun j hj => hs j (by omega)) key.1 i (by omega)
theorem words_at {ns : List (Str × Int)} {cs : List Cell} (co : CsOk cs) (h0 : ∀ c ∈ cs, c.a ≠ 0) : ∀ k, (stB ns cs k).words = (List.range (stB ns cs k).outs.length).filterMap (wordF ns cs (stB ns cs k).os)
  | 0 => rfl
  | k + 1 => by
    have ih := words_at (ns := ns) co h0 k
    have o := BOk.at (ns := ns) co h0 k
    have hle := o.le
    show (stepB ns cs (stB ns cs k)).words = _
    by_cases hlt : (stB ns cs k).outs.length + 1 < (stB ns cs k).os.length
    · obtain ⟨q, hq⟩ : ∃ q, (stB ns cs k).os[(stB ns cs k).outs.length + 1]? = some q := ⟨_, List.getElem?_eq_getElem hlt⟩
      rcases step_is (ns := ns) (cs := cs) hq with ⟨hc, e⟩ | ⟨c, hc, e⟩
      · have e' : stB ns cs (k + 1) = _ := e
        rw [e', e]
        dsimp only
        rw [List.length_append]
        show _ = (List.range ((stB ns cs k).outs.length + 1)).filterMap _
        rw [List.range_succ, List.filterMap_append, ← ih, List.filterMap_cons_none (by unfold wordF; rw [hq]; show Option.map _ (cellOf cs q) = none; rw [hc]; rfl)]
        simp
      · have e' : stB ns cs (k + 1) = _ := e
        have hpre := addO_pre (stB ns cs k).os (goalC ns cs c)
        rw [e', e]
        dsimp only
        rw [List.length_append]
        show _ = (List.range ((stB ns cs k).outs.length + 1)).filterMap _
        rw [List.range_succ, List.filterMap_append, List.filterMap_cons_some (b := marksOf (segL ns cs c)) (by unfold wordF; rw [pre_get hpre hq]; show Option.map _ (cellOf cs q) = _; rw [hc]; rfl), ih]
        have hcg : (List.range (stB ns cs k).outs.length).filterMap (wordF ns cs (stB ns cs k).os) = (List.range (stB ns cs k).outs.length).filterMap (wordF ns cs (addO (stB ns cs k).os (goalC ns cs c))) := fm_congr fun i hi => by
          have hil := List.mem_range.mp hi
          have h1 : (stB ns cs k).os[i + 1]? = some ((stB ns cs k).os[i + 1]'(by omega)) := List.getElem?_eq_getElem (by omega)
          unfold wordF
          rw [h1, pre_get hpre h1]
        rw [hcg]
        simp
    · have e : (stB ns cs k).os.length = (stB ns cs k).outs.length + 1 := by omega
      have e' : stB ns cs (k + 1) = stB ns cs k := step_stop e
      rw [e', step_stop e]
      exact ih
theorem marks_cons (c : Cell) (l : List Cell) : marksOf (c :: l) = c.m ++ marksOf l := by
  unfold marksOf
  rw [TL.join_eq, TL.join_eq]
  cases l with
  | nil => exact (Str.append_empty _).symm
  | cons d l => exact congrArg (· ++ Str.join "" ((d :: l).map (·.m))) (Str.append_empty c.m)
theorem marks_inj : ∀ {l l' : List Cell}, (∀ c ∈ l, c.m.length = 1) → (∀ c ∈ l', c.m.length = 1) → marksOf l = marksOf l' → l.map (·.m) = l'.map (·.m)
  | [], [], _, _, _ => rfl
  | [], d :: l', _, h', e => by
    rw [marks_cons] at e
    have h1 := congrArg Str.length e
    have h2 : (d.m ++ marksOf l').length = d.m.length + (marksOf l').length := Str.length_append _ _
    have h3 := h' d List.mem_cons_self
    have h4 : (marksOf ([] : List Cell)).length = 0 := rfl
    omega
  | c :: l, [], h, _, e => by
    rw [marks_cons] at e
    have h1 := congrArg Str.length e
    have h2 : (c.m ++ marksOf l).length = c.m.length + (marksOf l).length := Str.length_append _ _
    have h3 := h c List.mem_cons_self
    have h4 : (marksOf ([] : List Cell)).length = 0 := rfl
    omega
  | c :: l, d :: l', h, h', e => by
    rw [marks_cons, marks_cons] at e
    have e1 : c.m.cps.toList ++ (marksOf l).cps.toList = d.m.cps.toList ++ (marksOf l').cps.toList := by
      have := congrArg (fun z : Str => z.cps.toList) e
      have a1 : (c.m ++ marksOf l).cps = c.m.cps ++ (marksOf l).cps := rfl
      have a2 : (d.m ++ marksOf l').cps = d.m.cps ++ (marksOf l').cps := rfl
      rw [a1, a2, Array.toList_append, Array.toList_append] at this
      exact this
    have hc : c.m.cps.toList.length = 1 := by rw [Array.length_toList]; exact h c List.mem_cons_self
    have hd : d.m.cps.toList.length = 1 := by rw [Array.length_toList]; exact h' d List.mem_cons_self
    obtain ⟨x1, x2⟩ := List.append_inj e1 (by rw [hc, hd])
    have ext : ∀ {x y : Str}, x.cps.toList = y.cps.toList → x = y := fun {x y} q => by
      cases x with
      | mk x => cases y with
        | mk y => exact congrArg Str.mk (Array.toList_inj.mp q)
    rw [List.map_cons, List.map_cons, ext x1, marks_inj (fun z hz => h z (List.mem_cons_of_mem _ hz)) (fun z hz => h' z (List.mem_cons_of_mem _ hz)) (ext x2)]
section
variable {ns ms : List (Str × Int)} {cs ds : List Cell} {b b' : Bf}
theorem Pos.cell {x q : Int} {i j : Nat} {c : Cell} (h : Pos ns cs b x i j) (hq : b.os[i]? = some q) (hc : cellOf cs q = some c) : ∃ e, (segL ns cs c)[j]? = some e ∧ cellOf cs x = some e := by
  obtain ⟨r, hr, h⟩ := h
  rw [hq] at hr
  cases hr
  rcases h with ⟨rfl, rfl⟩ | ⟨c', e, h1, h2, h3, h4⟩
  · exact ⟨c, seg_zero _ _, hc⟩
  · rw [hc] at h1
    cases h1
    obtain ⟨j', rfl⟩ : ∃ j', j = j' + 1 := ⟨j - 1, by omega⟩
    obtain ⟨p, p1, p2, p3⟩ := seg_pred _ _ _ _ h3
    exact ⟨e, h3, by rw [← h4, (cell_key p2).2]; exact p2⟩
/-- along a segment, or at its end -/
theorem Pos.along {q : Int} {i j : Nat} {c e : Cell} (hq : b.os[i]? = some q) (hc : cellOf cs q = some c) (he : (segL ns cs c)[j]? = some e) (hl : j + 1 < (segL ns cs c).length) : Pos ns cs b e.l i (j + 1) := by
  have h1 : (segL ns cs c)[j + 1]? = some (segL ns cs c)[j + 1] := List.getElem?_eq_getElem hl
  obtain ⟨p, p1, p2, _⟩ := seg_pred _ _ _ _ h1
  have p1' : (segL ns cs c)[j]? = some p := p1
  rw [he] at p1'
  cases p1'
  exact ⟨q, hq, .inr ⟨c, _, hc, Nat.succ_pos _, h1, (cell_key p2).2⟩⟩
theorem seg_last (hc : cs ≠ [] → True) {c : Cell} (h0 : c ∈ cs) (hp : plainB ns cs c.a = false) {j : Nat} {e : Cell} (he : (segL ns cs c)[j]? = some e) (hl : ¬ j + 1 < (segL ns cs c).length) : e.l = goalC ns cs c := by
  obtain ⟨_, _, _, _, r, hr⟩ := goal_ok h0 hp
  obtain ⟨hj, _⟩ := List.getElem?_eq_some_iff.mp he
  have h1 : (segL ns cs c) = r.reverse ++ [lastC ns cs c] := by
    have := congrArg List.reverse hr
    rw [List.reverse_reverse, List.reverse_cons] at this
    exact this
  rw [h1] at he hj hl
  rw [List.length_append] at hj hl
  simp only [List.length_cons, List.length_nil] at hj hl
  rw [List.getElem?_append_right (by omega)] at he
  rw [show j - r.reverse.length = 0 by omega] at he
  cases he
  rfl
theorem form_iso (co : CsOk cs) (do_ : CsOk ds) (no : NmOk ns) (h0 : ∀ c ∈ cs, c.a ≠ 0) (h1 : ∀ c ∈ ds, c.a ≠ 0) (m1 : ∀ c ∈ cs, c.m.length = 1) (m2 : ∀ c ∈ ds, c.m.length = 1) {k j : Nat} (dk : Done ns cs k) (dj : Done ms ds j) (F : FormEq ns ms (stB ns cs k) (stB ms ds j)) : Alike ns ms cs ds := by
  have o1 := BOk.at (ns := ns) co h0 k
  have o2 := BOk.at (ns := ms) do_ h1 j
  have a1 := OutsAt.at (ns := ns) co h0 k
  have a2 := OutsAt.at (ns := ms) do_ h1 j
  have w1 := words_at (ns := ns) co h0 k
  have w2 := words_at (ns := ms) do_ h1 j
  have hol := congrArg List.length F.outs
  have n1 := dk.n
  have s1 := dk.s
  have n2 := dj.n
  have s2 := dj.s
  have zero : ∀ {x : Int} {i : Nat}, cellOf cs 0 = none ∧ cellOf ds 0 = none := fun {x i} => by
    constructor
    · cases h : cellOf cs 0 with
      | none => rfl
      | some c => exact absurd (cell_key h).2 (h0 c (cell_key h).1)
    · cases h : cellOf ds 0 with
      | none => rfl
      | some c => exact absurd (cell_key h).2 (h1 c (cell_key h).1)
  refine ⟨fun x y => ∃ i j', Pos ns cs (stB ns cs k) x i j' ∧ Pos ms ds (stB ms ds j) y i j', ?_, ?_, ?_, F.names, ?_, ?_⟩
  · obtain ⟨r1, e1⟩ := o1.hd
    obtain ⟨r2, e2⟩ := o2.hd
    exact ⟨0, 0, ⟨0, by rw [e1]; rfl, .inl ⟨rfl, rfl⟩⟩, ⟨0, by rw [e2]; rfl, .inl ⟨rfl, rfl⟩⟩⟩
  · rintro x y y' ⟨i, u, p1, p2⟩ ⟨i', u', q1, q2⟩
    obtain ⟨rfl, rfl⟩ := Pos.uniq co h0 o1 _ _ _ _ _ p1 q1
    exact p2.fn q2
  · rintro x x' y ⟨i, u, p1, p2⟩ ⟨i', u', q1, q2⟩
    obtain ⟨rfl, rfl⟩ := Pos.uniq do_ h1 o2 _ _ _ _ _ p2 q2
    exact p1.fn q1
  · intro n m hn hm e
    obtain ⟨p, hp⟩ := List.mem_iff_getElem?.mp hn
    obtain ⟨q, hq⟩ := List.mem_iff_getElem?.mp hm
    have hpq : p = q := by
      have b1 : (ns.map (·.1))[p]? = some n.1 := by rw [List.getElem?_map, hp]; rfl
      have b2 : (ns.map (·.1))[q]? = some n.1 := by rw [F.names, List.getElem?_map, hq, e]; rfl
      obtain ⟨l1, c1⟩ := List.getElem?_eq_some_iff.mp b1
      obtain ⟨l2, c2⟩ := List.getElem?_eq_some_iff.mp b2
      have d1 := no.nd.idxOf_getElem p l1
      have d2 := no.nd.idxOf_getElem q l2
      rw [c1] at d1
      rw [c2] at d2
      omega
    subst hpq
    have ha := congrArg (fun l : List Int => l[p]?) F.at_
    unfold atOf at ha
    rw [List.getElem?_map, List.getElem?_map, hp, hq] at ha
    have hi : (stB ns cs k).os.idxOf n.2 = (stB ms ds j).os.idxOf m.2 := by
      have : (((stB ns cs k).os.idxOf n.2 : Nat) : Int) = (((stB ms ds j).os.idxOf m.2 : Nat) : Int) := Option.some.inj ha
      omega
    exact ⟨(stB ns cs k).os.idxOf n.2, 0, ⟨n.2, get_idx (o1.nm n hn), .inl ⟨rfl, rfl⟩⟩, ⟨m.2, by rw [hi]; exact get_idx (o2.nm m hm), .inl ⟨rfl, rfl⟩⟩⟩
  · rintro x y ⟨i, u, p1, p2⟩
    obtain ⟨q1, hq1, alt1⟩ := id p1
    obtain ⟨q2, hq2, alt2⟩ := id p2
    cases i with
    | zero =>
      obtain ⟨r1, e1⟩ := o1.hd
      obtain ⟨r2, e2⟩ := o2.hd
      rw [e1] at hq1
      rw [e2] at hq2
      cases hq1
      cases hq2
      obtain ⟨z1, z2⟩ := zero (x := 0) (i := 0)
      rcases alt1 with ⟨_, rfl⟩ | ⟨c, _, hc, _⟩
      · rcases alt2 with ⟨_, rfl⟩ | ⟨c, _, hc, _⟩
        · exact .inl ⟨z1, z2⟩
        · rw [z2] at hc; cases hc
      · rw [z1] at hc; cases hc
    | succ i =>
      have hil : i < (stB ns cs k).outs.length := by
        have := (List.getElem?_eq_some_iff.mp hq1).1
        omega
      obtain ⟨r1, hr1, ho1⟩ := a1.at_ i hil
      obtain ⟨r2, hr2, ho2⟩ := a2.at_ i (by omega)
      rw [hq1] at hr1
      rw [hq2] at hr2
      cases hr1
      cases hr2
      rw [F.outs, ho2] at ho1
      have hoo := Option.some.inj ho1
      unfold outOf at hoo
      cases hc1 : cellOf cs q1 with
      | none =>
        rw [hc1] at hoo
        have hc2 : cellOf ds q2 = none := by
          cases h : cellOf ds q2 with
          | none => rfl
          | some d => rw [h] at hoo; cases hoo
        rcases alt1 with ⟨_, rfl⟩ | ⟨c, _, hc, _⟩
        · rcases alt2 with ⟨_, rfl⟩ | ⟨c, _, hc, _⟩
          · exact .inl ⟨hc1, hc2⟩
          · rw [hc2] at hc; cases hc
        · rw [hc1] at hc; cases hc
      | some c1 =>
        rw [hc1] at hoo
        cases hc2 : cellOf ds q2 with
        | none => rw [hc2] at hoo; cases hoo
        | some c2 =>
          rw [hc2] at hoo
          obtain ⟨hg, hsh⟩ := Prod.mk.inj (Option.some.inj hoo)
          obtain ⟨k1, k2⟩ := cell_key hc1
          obtain ⟨k3, k4⟩ := cell_key hc2
          have hp1 : plainB ns cs c1.a = false := by rw [k2]; exact spot_plain co h0 (o1.sp q1 (List.mem_of_getElem? hq1))
          have hp2 : plainB ms ds c2.a = false := by rw [k4]; exact spot_plain do_ h1 (o2.sp q2 (List.mem_of_getElem? hq2))
          obtain ⟨_, _, _, sg1, _⟩ := goal_ok k1 hp1
          obtain ⟨_, _, _, sg2, _⟩ := goal_ok k3 hp2
          have hw : wordF ns cs (stB ns cs k).os i = wordF ms ds (stB ms ds j).os i := by
            refine fm_inj (f := wordF ns cs (stB ns cs k).os) (g := wordF ms ds (stB ms ds j).os) (stB ns cs k).outs.length (fun t ht => ?_) ?_ i hil
            · obtain ⟨t1, ht1, hto1⟩ := a1.at_ t ht
              obtain ⟨t2, ht2, hto2⟩ := a2.at_ t (by omega)
              rw [F.outs, hto2] at hto1
              have hh := Option.some.inj hto1
              unfold outOf at hh
              unfold wordF
              rw [ht1, ht2]
              show (Option.map _ (cellOf cs t1)).isSome = (Option.map _ (cellOf ds t2)).isSome
              cases hx1 : cellOf cs t1 with
              | none =>
                rw [hx1] at hh
                cases hx2 : cellOf ds t2 with
                | none => rfl
                | some d => rw [hx2] at hh; cases hh
              | some c =>
                rw [hx1] at hh
                cases hx2 : cellOf ds t2 with
                | none => rw [hx2] at hh; cases hh
                | some d => rfl
            · rw [← w1, hol, ← w2]
              exact F.words
          have hmk : marksOf (segL ns cs c1) = marksOf (segL ms ds c2) := by
            unfold wordF at hw
            rw [hq1, hq2] at hw
            have hw : Option.map (fun c => marksOf (segL ns cs c)) (cellOf cs q1) = Option.map (fun c => marksOf (segL ms ds c)) (cellOf ds q2) := hw
            rw [hc1, hc2] at hw
            exact Option.some.inj hw
          have hmm := marks_inj (fun c hc => m1 c (sg1.mem k1 c (List.mem_reverse.mpr hc))) (fun c hc => m2 c (sg2.mem k3 c (List.mem_reverse.mpr hc))) hmk
          have hlen := congrArg List.length hmm
          rw [List.length_map, List.length_map] at hlen
          obtain ⟨e1, he1, hx1⟩ := p1.cell hq1 hc1
          obtain ⟨e2, he2, hx2⟩ := p2.cell hq2 hc2
          have hm12 : e1.m = e2.m := by
            have := congrArg (fun l : List Str => l[u]?) hmm
            rw [List.getElem?_map, List.getElem?_map, he1, he2] at this
            exact Option.some.inj this
          have hs12 : e1.s = e2.s := by
            rw [sg1.share k1 e1 (List.mem_reverse.mpr (List.mem_of_getElem? he1)), sg2.share k3 e2 (List.mem_reverse.mpr (List.mem_of_getElem? he2)), hsh]
          refine .inr ⟨e1, e2, hx1, hx2, hm12, hs12, ?_⟩
          by_cases hlt : u + 1 < (segL ns cs c1).length
          · exact ⟨i + 1, u + 1, Pos.along hq1 hc1 he1 hlt, Pos.along hq2 hc2 he2 (by omega)⟩
          · have g1 := seg_last (fun _ => trivial) k1 hp1 he1 hlt
            have g2 := seg_last (fun _ => trivial) k3 hp2 he2 (by omega)
            have hgi : (stB ms ds j).os.idxOf (goalC ms ds c2) = (stB ns cs k).os.idxOf (goalC ns cs c1) := by omega
            refine ⟨(stB ns cs k).os.idxOf (goalC ns cs c1), 0, ⟨e1.l, ?_, .inl ⟨rfl, rfl⟩⟩, ⟨e2.l, ?_, .inl ⟨rfl, rfl⟩⟩⟩
            · rw [g1]
              exact get_idx (o1.pr i q1 c1 hil hq1 hc1)
            · rw [g2, ← hgi]
              exact get_idx (o2.pr i q2 c2 (by omega) hq2 hc2)
/-- the written forms tell it -/
theorem form_iff (co : CsOk cs) (do_ : CsOk ds) (no : NmOk ns) (h0 : ∀ c ∈ cs, c.a ≠ 0) (h1 : ∀ c ∈ ds, c.a ≠ 0) (m1 : ∀ c ∈ cs, c.m.length = 1) (m2 : ∀ c ∈ ds, c.m.length = 1) (hr : ∀ c ∈ cs, Reach ns cs c.a) (hs : ∀ c ∈ ds, Reach ms ds c.a) {k j : Nat} (dk : Done ns cs k) (dj : Done ms ds j) : FormEq ns ms (stB ns cs k) (stB ms ds j) ↔ Alike ns ms cs ds :=
  ⟨fun F => form_iso co do_ no h0 h1 m1 m2 dk dj F, fun ⟨_, I⟩ => iso_form I co do_ h0 h1 hr hs dk dj⟩
end


/-! ### written -/
theorem k_mksup {C : Addr} {ta : TA} {σ : L2.St} {H : Hp} {Q : XK} (h : ta σ H fun vs H1 => ∃ i : Int, vs = [V.int i] ∧ i.natAbs.log2 < 1920 ∧ ∀ d, H1 d = none → Q (.ref C) (some d) (upd H1 d (xdA i))) : tMkSup C ta σ H Q := h
def NumD (kvs : List (L2.Key × V)) (os : List Int) : Prop := (∀ a, valV kvs (Sum.inl a) = if a ∈ os then some (V.int (os.idxOf a : Nat)) else none) ∧ kvs.length ≤ os.length
theorem NumD.one : NumD [(Sum.inl 0, V.int 0)] [0] := by
  refine ⟨fun a => ?_, Nat.le_refl _⟩
  by_cases h : a = 0
  · subst h
    rw [if_pos (List.mem_singleton.mpr rfl), valV_pos rfl]
    rfl
  · rw [if_neg (fun z => h (List.mem_singleton.mp z)), valV_neg (fun z => h (Sum.inl.inj z).symm)]
    rfl
theorem NumD.add {kvs : List (L2.Key × V)} {os : List Int} {a : Int} (h : NumD kvs os) (hn : a ∉ os) : NumD (putK kvs (Sum.inl a) (.int os.length)) (addO os a) := by
  unfold addO
  rw [if_neg hn]
  refine ⟨fun b => ?_, ?_⟩
  · rw [valV_put, h.1 b]
    by_cases e : b = a
    · subst e
      rw [if_pos rfl, if_pos (List.mem_append_right _ (List.mem_singleton.mpr rfl)), List.idxOf_append, if_neg hn]
      simp
    · rw [if_neg (fun z => e (Sum.inl.inj z))]
      by_cases hb : b ∈ os
      · rw [if_pos hb, if_pos (List.mem_append_left _ hb), List.idxOf_append, if_pos hb]
      · rw [if_neg hb, if_neg]
        intro z
        rcases List.mem_append.mp z with z | z
        · exact hb z
        · exact e (List.mem_singleton.mp z)
  · have := length_putK kvs (Sum.inl a) (.int os.length)
    rw [List.length_append]
    simp only [List.length_cons, List.length_nil]
    have := h.2
    omega
def OutV (H : Hp) (x : V) (o : Option (Int × Int)) : Prop := match o with
  | none => x = .non
  | some (g, s) => ∃ t, x = .ref t ∧ H t = some (.tup [.int g, .int s])
structure OutsV (H : Hp) (xs : List V) (os : List (Option (Int × Int))) : Prop where
  len : xs.length = os.length
  get : ∀ (i : Nat) (x : V) (o : Option (Int × Int)), xs[i]? = some x → os[i]? = some o → OutV H x o
theorem OutsV.mono {H H' : Hp} {xs : List V} {os : List (Option (Int × Int))} (h : OutsV H xs os) (f : ∀ t ys, H t = some (.tup ys) → H' t = some (.tup ys)) : OutsV H' xs os :=
  ⟨h.len, fun i x o h1 h2 => by
    have := h.get i x o h1 h2
    cases o with
    | none => exact this
    | some q =>
      obtain ⟨t, e, ht⟩ := this
      exact ⟨t, e, f _ _ ht⟩⟩
theorem OutsV.snoc {H : Hp} {xs : List V} {os : List (Option (Int × Int))} {x : V} {o : Option (Int × Int)} (h : OutsV H xs os) (hx : OutV H x o) : OutsV H (xs ++ [x]) (os ++ [o]) := by
  refine ⟨by rw [List.length_append, List.length_append, h.len]; rfl, fun i y p h1 h2 => ?_⟩
  by_cases hi : i < xs.length
  · rw [List.getElem?_append_left hi] at h1
    rw [List.getElem?_append_left (by rw [← h.len]; exact hi)] at h2
    exact h.get i y p h1 h2
  · have hl := h.len
    rw [List.getElem?_append_right (by omega)] at h1
    rw [List.getElem?_append_right (by omega)] at h2
    have e1 : i - xs.length = 0 := by
      have := (List.getElem?_eq_some_iff.mp h1).1
      simp at this
      omega
    rw [e1] at h1
    rw [show i - os.length = 0 by omega] at h2
    cases h1
    cases h2
    exact hx
theorem OutsV.dp {K : PySem.W.Frag} {H : Hp} : ∀ {xs : List V} {os : List (Option (Int × Int))}, OutsV H xs os → DpAll K H xs (os.map dOut)
  | [], [], _ => .nil
  | [], _ :: _, h => nomatch h.len
  | _ :: _, [], h => nomatch h.len
  | x :: xs, o :: os, h => by
    refine .cons ?_ (OutsV.dp ⟨by have := h.len; simpa using this, fun i y p h1 h2 => h.get (i + 1) y p h1 h2⟩)
    have := h.get 0 x o rfl rfl
    cases o with
    | none =>
      have e : x = .non := this
      rw [e]
      exact .non
    | some q =>
      obtain ⟨t, e, ht⟩ := this
      rw [e]
      exact .tup (.inl (.inl ht)) (.cons (.int _) (.cons (.int _) .nil))
theorem words_le {ns : List (Str × Int)} {cs : List Cell} : ∀ k : Nat, (stB ns cs k).words.length ≤ k
  | 0 => Nat.le_refl _
  | k + 1 => by
    have h1 := words_le (ns := ns) (cs := cs) k
    have h2 : (stepB ns cs (stB ns cs k)).words.length ≤ (stB ns cs k).words.length + 1 := by
      unfold stepB
      split
      · omega
      · split
        · dsimp only
          omega
        · dsimp only
          rw [List.length_append]
          simp
    exact Nat.le_trans h2 (Nat.succ_le_succ h1)
structure WrH (S N : Addr) (H2 H' : Hp) (os : List Int) (kvs : List (L2.Key × V)) : Prop where
  e : Ex H2 H'
  s : H' S = some (.lst (os.map V.int))
  n : H' N = some (.dK kvs)
  d : NumD kvs os
structure WrI (S N O U : Addr) (H2 H' : Hp) (b : Bf) (kvs : List (L2.Key × V)) (xs : List V) : Prop where
  h : WrH S N H2 H' b.os kvs
  o : H' O = some (.lst xs)
  v : OutsV H' xs b.outs
  w : H' U = some (.lst (b.words.map V.str))
def spWrt (K : PySem.W.Frag) : Sp := fun vs H Q E => ∃ (p : Addr) (ns : List (Str × Int)) (cs : List Cell), vs = [.ref p] ∧ HeapAt K H p ns cs ∧ (∀ c ∈ cs, c.a ≠ 0 ∧ (1 ≤ c.s ∧ c.s ≤ 12) ∧ c.m.length ≤ 10) ∧
  (∀ met, Good ns cs met → lostL cs met = [] → ∀ H' t f u k, Ex H H' → H' t = some (.tup [.ref f, .ref u]) → H f = none → Done ns cs k → FigAt K H' f (ns.map (·.1)) (atOf ns (stB ns cs k).os) (stB ns cs k).outs → SqT K H' u ((stB ns cs k).words.map V.str) → Q (.ref t) H') ∧
  (∀ met x r, Good ns cs met → lostL cs met = x :: r → ∀ H' d, Ex H H' → H' d = some (xdA x) → E (eLost K) (some d) H')
section
variable {P : Program} {w : World} {K : PySem.W.Frag} {mg : Str → Option Value} {base : Heap}
theorem c_written (Y : Ty P w K mg) : Cal P w K mg base (L2N.CX P w) 8 "written" ["heap"] (spWrt K) := by
  have T := Y.T
  refine cal_mkX T.D_written T.m_written sc_written (fun _ _ _ _ _ _ us hl => match us, hl with | [_], _ => rfl) (fun vs H Q E h => ?_) (fun f cdv A outer s H vs Q E hr h => ?_)
  · obtain ⟨p, ns, cs, rfl, _⟩ := h
    rfl
  · obtain ⟨p, ns, cs, rfl, hA, hcs, k1, k2⟩ := h
    obtain ⟨dx, tn, tc, d, kvs0, hA1⟩ := id hA
    obtain ⟨_, ys, et, hy, hyl, _, hyc⟩ := names_tup hA1.nms
    cases et
    have hln := hA1.ln
    have hlc := hA1.lc
    have hu := hu_of hr
    have co := hA1.co
    have h0 : ∀ c ∈ cs, c.a ≠ 0 := fun c hc => (hcs c hc).1
    refine ⟨_, ((pss_cons (ps_set (i := 1) sc_written.nd rfl (Or.inl rfl) (by exact pe_cal (c_lost_cells T) hr (by decide) rfl pass0 (pa_cons (pv 0) pa_nil)))
  (pss_cons (ps_if (pt_truth (pv 1) (by intro _; rfl)) (pss_one (L2N.ps_raise rfl (L2N.takes_of rfl rfl rfl rfl) (by exact pmk_Lost Y hr rfl (pa_cons (pe_ix (ix_listK (K := K) rfl) (pv 1) pe_int (fun _ _ => rfl)) pa_nil)))) pss_nil)
  (pss_cons (ps_set (i := 2) sc_written.nd rfl (Or.inl rfl) (by exact pe_cal (c_plain_cells T) hr (by decide) rfl pass0 (pa_cons (pv 0) pa_nil)))
  (pss_cons (ps_set (i := 3) sc_written.nd rfl (Or.inl rfl) (pe_lst (pa_cons pe_int pa_nil)))
  (pss_cons (ps_set (i := 4) sc_written.nd rfl (Or.inr rfl) (pe_disp (pps_cons pe_int pe_int pps_nil) rfl rfl (List.cons_ne_nil _ _) (by decide)))
  (pss_cons (ps_for (passes_of rfl) rfl (pi_tup (pe_fld (pv 0) rfl)) (pg_tup (n := 2) rfl (pgs_cons (pg_name (i := 5) sc_written.nd rfl (Or.inl rfl)) (pgs_cons (pg_name (i := 6) sc_written.nd rfl (Or.inl rfl)) pgs_nil))) (pss_one (ps_if (pt_cmp (pc_dnotin hu (pv 6) (pv 4)) rfl) (pss_cons (ps_dput hu (pv 4) (pv 6) (by exact pe_callB (cr_lenK (K := K) rfl) rfl T.f_len (by decide +kernel) (pa_cons (pv 3) pa_nil)) rfl)
  (pss_one (ps_expr (pe_bm PySem.F.plainAttrs_list PySem.F.slot_list_append PySem.F.type_list_append mt_append (pv 3) (pa_cons (pv 6) pa_nil))))) pss_nil)))
  (pss_cons (ps_set (i := 7) sc_written.nd rfl (Or.inl rfl) (pe_lst pa_nil))
  (pss_cons (ps_set (i := 8) sc_written.nd rfl (Or.inl rfl) (pe_lst pa_nil))
  (pss_cons (ps_while (passes_of rfl) (pt_cmpR o_lt (pe_op o_add (by exact pe_callB (cr_lenK (K := K) rfl) rfl T.f_len (by decide +kernel) (pa_cons (pv 7) pa_nil)) pe_int) (by exact pe_callB (cr_lenK (K := K) rfl) rfl T.f_len (by decide +kernel) (pa_cons (pv 3) pa_nil)) (nomark _)) (pss_cons (ps_set (i := 9) sc_written.nd rfl (Or.inl rfl) (pe_ix (ix_listK (K := K) rfl) (pv 3) (pe_op o_add (by exact pe_callB (cr_lenK (K := K) rfl) rfl T.f_len (by decide +kernel) (pa_cons (pv 7) pa_nil)) pe_int) (fun _ _ => rfl)))
  (pss_cons (ps_set (i := 10) sc_written.nd rfl (Or.inl rfl) (by exact pe_met (pv 0) T.cls_Heap (me_Heap_cell T) hr (by decide) pass0 (pa_cons (pv 9) pa_nil)))
  (pss_one (ps_if (pt_cmp (pc_isN (pv 10))) (pss_one (ps_expr (pe_bm PySem.F.plainAttrs_list PySem.F.slot_list_append PySem.F.type_list_append mt_append (pv 7) (pa_cons pe_non pa_nil)))) (pss_cons (ps_asg (by exact pe_cal (c_segment_word T) hr (by decide) rfl pass0 (pa_cons (pv 0) (pa_cons (pv 9) (pa_cons (pv 2) pa_nil)))) (pg_tup (n := 2) rfl (pgs_cons (pg_name (i := 11) sc_written.nd rfl (Or.inl rfl)) (pgs_cons (pg_name (i := 12) sc_written.nd rfl (Or.inl rfl)) pgs_nil))))
  (pss_cons (ps_if (pt_cmp (pc_dnotin hu (pv 12) (pv 4)) rfl) (pss_cons (ps_dput hu (pv 4) (pv 12) (by exact pe_callB (cr_lenK (K := K) rfl) rfl T.f_len (by decide +kernel) (pa_cons (pv 3) pa_nil)) rfl)
  (pss_one (ps_expr (pe_bm PySem.F.plainAttrs_list PySem.F.slot_list_append PySem.F.type_list_append mt_append (pv 3) (pa_cons (pv 12) pa_nil))))) pss_nil)
  (pss_cons (ps_expr (pe_bm PySem.F.plainAttrs_list PySem.F.slot_list_append PySem.F.type_list_append mt_append (pv 7) (pa_cons (pe_tup (pa_cons (pe_dget hu (pv 4) (pv 12) (fun _ _ => rfl)) (pa_cons (pe_ix (ix_tupK (K := K) rfl) (pv 10) pe_int (fun _ _ => rfl)) pa_nil))) pa_nil)))
  (pss_one (ps_expr (pe_bm PySem.F.plainAttrs_list PySem.F.slot_list_append PySem.F.type_list_append mt_append (pv 8) (pa_cons (pv 11) pa_nil))))))))))))
  (pss_cons (ps_setLc (i := 13) (own := [("name", 5), ("number", 6)]) rfl sc_written.nd rfl rfl (sw_true rfl rfl rfl (by decide +kernel)) (pi_tup (pe_fld (pv 0) rfl)) (blkOk_by (N := ["heap", "lost", "plain", "spots", "numbers", "name", "number", "outs", "words", "spot", "cell", "word", "goal", "at"]) (sc := defScope s_written) (by decide +kernel)) (fun _ _ _ _ _ => (by exact pg_tupK (K := K) (n := 2) rfl rfl (pgs_cons (pg_name (i := 5) sc_written.nd rfl (Or.inl rfl)) (pgs_cons (pg_name (i := 6) sc_written.nd rfl (Or.inl rfl)) pgs_nil)))) (fun _ _ _ _ _ => pts_nil) (fun _ _ _ _ _ => (pe_dget hu (pv 4) (pv 6) (fun _ _ => rfl))))
  (pss_one (ps_ret (pe_tup (pa_cons (by exact pe_cal (c_figure_from T) hr (by decide) rfl pass0 (pa_cons (pe_lc (own := [("name", 5), ("number", 6)]) rfl sc_written.nd (pi_tup (pe_fld (pv 0) rfl)) (blkOk_by (N := ["heap", "lost", "plain", "spots", "numbers", "name", "number", "outs", "words", "spot", "cell", "word", "goal", "at"]) (sc := defScope s_written) (by decide +kernel)) (fun _ _ _ _ _ => (by exact pg_tupK (K := K) (n := 2) rfl rfl (pgs_cons (pg_name (i := 5) sc_written.nd rfl (Or.inl rfl)) (pgs_cons (pg_name (i := 6) sc_written.nd rfl (Or.inl rfl)) pgs_nil)))) (fun _ _ _ _ _ => pts_nil) (fun _ _ _ _ _ => (pv 5))) (pa_cons (pv 13) (pa_cons (pv 7) pa_nil)))) (pa_cons (by exact pe_callTy cr_tupOf rfl T.f_tuple (by decide +kernel) (pa_cons (pv 8) pa_nil)) pa_nil)))))))))))))))), ?_⟩
    dsimp only [cxOf]
    repeat walk_at "st"
    refine ⟨p, ns, cs, rfl, hA, fun H1 L met e1 hL0 hL good => ?_⟩
    repeat walk_at "st"
    have hL' : SqL K H1 L ((lostL cs met).map V.int) := .inl (.inl hL)
    cases hlo : lostL cs met with
    | cons x r =>
      rw [hlo] at hL hL'
      refine ⟨true, .inl ⟨_, hL', rfl⟩, ?_⟩
      repeat walk_at "st"
      refine k_mksup ?_
      repeat walk_at "st"
      obtain ⟨c, hc, ex⟩ : ∃ c ∈ cs, c.a = x := by
        have : x ∈ lostL cs met := by rw [hlo]; exact List.mem_cons_self
        unfold lostL at this
        obtain ⟨c, hc, e⟩ := List.mem_map.mp this
        exact ⟨c, (List.mem_filter.mp hc).1, e⟩
      refine ⟨x, rfl, ?_, fun d' hd' => k2 met x r good hlo _ d' (e1.trans (Ex.new hd')) upd_same⟩
      have := (hA1.sc c hc).2
      rw [ex] at this
      exact log2_small this
    | nil =>
      rw [hlo] at hL hL'
      refine ⟨false, .inl ⟨_, hL', rfl⟩, ?_⟩
      repeat walk_at "st"
      have hAA := hA.ex e1
      refine ⟨p, ns, cs, rfl, hAA, fun H2 D kvp e2 hD pld => ?_⟩
      have e02 := e1.trans e2
      repeat walk_at "st"
      intro S H3 hS e3 h3
      repeat walk_at "st"
      refine k_disp1 (k := Sum.inl 0) (v := .int 0) (fun _ _ h => h) (fun _ _ h => h) fun N H4 hN e4 h4 => ?_
      repeat walk_at "st"
      have e04 := e02.trans (e3.trans e4)
      have e24 := e3.trans e4
      have hS2 : H2 S = none := hS
      have hN2 : H2 N = none := e3.none hN
      have nSN : S ≠ N := fun z => by rw [z, hN] at h3; cases h3
      refine k_fldE (e04.get hA1.ins) T.cls_Heap T.no_Heap_names (hf_names _ _ _) ?_
      have hy4 := e04.sqT hy
      repeat walk_at "st"
      refine for_it (walk_tup (xs := ys)) (fun i σ' H' => ∃ (os : List Int) (kvs : List (L2.Key × V)) (v5 v6 : Option V), σ' = [some (.ref p), some (.ref L), some (.ref D), some (.ref S), some (.ref N), v5, v6, none, none, none, none, none, none, none] ∧ os = foldO [0] ((ns.map (·.2)).take i) ∧ WrH S N H2 H' os kvs) ⟨[0], [(Sum.inl 0, .int 0)], none, none, rfl, by simp [foldO], ⟨e24, e4.get h3, h4, NumD.one⟩⟩ (fun i σ' H' _ ⟨_, _, _, _, _, _, h⟩ => (e02.trans h.e).sqT hy)
        (fun i x σ' Hx H5 hi ⟨os, kvs, v5, v6, es, eos, h⟩ y => ?_) (fun σ' H5 ⟨os, kvs, v5, v6, es, eos, h⟩ => ?_)
      · subst es
        obtain ⟨rfl, y⟩ := y
        obtain ⟨n, hn⟩ : ∃ n, ns[i]? = some n := ⟨ns[i]'(by omega), List.getElem?_eq_getElem (by omega)⟩
        obtain ⟨q, hq, hsq⟩ := hyc i n hn
        rw [hq] at y
        cases y
        have hsq5 := (e02.trans h.e).sqT hsq
        unfold nmT at hsq5
        have hv : (ns.map (·.2))[i]? = some n.2 := by rw [List.getElem?_map, hn]; rfl
        have eos' : foldO [0] ((ns.map (·.2)).take (i + 1)) = addO os n.2 := by rw [foldO_succ _ hv, ← eos]
        have hos : os.length ≤ i + 1 := by
          rw [eos]
          have aux : ∀ (l os : List Int), (foldO os l).length ≤ os.length + l.length := by
            intro l
            induction l with
            | nil => intro os; exact Nat.le_refl _
            | cons z l ih =>
              intro os
              have h1 := ih (addO os z)
              have h2 := addO_len (os := os) (a := z)
              rw [List.length_cons]
              show (foldO (addO os z) l).length ≤ _
              omega
          have := aux ((ns.map (·.2)).take i) [0]
          rw [List.length_take] at this
          simp only [List.length_cons, List.length_nil] at this
          omega
        have hNn := h.n
        have hSs := h.s
        have hkl := h.d.2
        repeat walk_at "st"
        refine k_dinE (k := Sum.inl n.2) rfl (.inl hNn) ?_
        rw [h.d.1 n.2]
        by_cases hin : n.2 ∈ os
        · rw [if_pos hin]
          repeat walk_at "st"
          refine ⟨os, kvs, _, _, rfl, ?_, h⟩
          rw [eos', addO, if_pos hin]
        · rw [if_neg hin]
          repeat walk_at "st"
          refine k_dputE (k := Sum.inl n.2) rfl hNn (by rw [sizeLine_eq]; omega) fun H6 b6 h6 => ?_
          have hS6 := b6 _ _ nSN hSs
          repeat walk_at "st"
          intro H7 b7 h7
          have nd := h.d.add hin
          rw [List.length_map] at h6
          refine ⟨addO os n.2, _, _, _, rfl, eos'.symm, ⟨ExB.old (ExB.old h.e hN2 b6) hS2 b7, ?_, b7 _ _ (Ne.symm nSN) h6, nd⟩⟩
          rw [h7, addO, if_neg hin, List.map_append]
          rfl
      · subst es
        rw [hyl, List.take_of_length_le (by rw [List.length_map]; exact Nat.le_refl _)] at eos
        repeat walk_at "st"
        intro O H6 hO e6 h6
        repeat walk_at "st"
        intro U H7 hU e7 h7
        repeat walk_at "st"
        have hO2 : H2 O = none := h.e.none hO
        have hU2 : H2 U = none := (h.e.trans e6).none hU
        have nSO : S ≠ O := fun z => by have := h.s; rw [z, hO] at this; cases this
        have nSU : S ≠ U := fun z => by have := e6.get h.s; rw [z, hU] at this; cases this
        have nOU : O ≠ U := fun z => by rw [z] at h6; rw [h6] at hU; cases hU
        have nNO : N ≠ O := fun z => by have := h.n; rw [z, hO] at this; cases this
        have nNU : N ≠ U := fun z => by have := e6.get h.n; rw [z, hU] at this; cases this
        refine ⟨fun m σ' H' => ∃ (k : Nat) (kvs : List (L2.Key × V)) (xs : List V) (v5 v6 v9 v10 v11 v12 : Option V), σ' = [some (.ref p), some (.ref L), some (.ref D), some (.ref S), some (.ref N), v5, v6, some (.ref O), some (.ref U), v9, v10, v11, v12, none] ∧ (stB ns cs k).outs.length = k ∧ m = ns.length + cs.length - k ∧ WrI S N O U H2 H' (stB ns cs k) kvs xs, ⟨_, 0, kvs, [], _, _, _, _, _, _, rfl, rfl, rfl, ⟨⟨h.e.trans (e6.trans e7), (e6.trans e7).get (by rw [show (stB ns cs 0).os = os from eos.symm]; exact h.s), (e6.trans e7).get h.n, by rw [show (stB ns cs 0).os = os from eos.symm]; exact h.d⟩, e7.get h6, ⟨rfl, fun i x o h1 h2 => nomatch h1⟩, h7⟩⟩, ?_⟩
        clear h h6 h7 e6 e7 eos hO hU
        rintro m σ H8 ⟨k, kvs, xs, v5, v6, v9, v10, v11, v12, rfl, hk, rfl, I⟩
        have o := BOk.at (ns := ns) co h0 k
        have hbd := o.bound
        have hle := o.le
        have hwl := words_le (ns := ns) (cs := cs) k
        have hS8 := I.h.s
        have hN8 := I.h.n
        have hO8 := I.o
        have hU8 := I.w
        have hxl := I.v.len
        have hkl := I.h.d.2
        have ea : (((xs.length : Nat) : Int) + 1 < (((stB ns cs k).os.map V.int).length : Int)) ↔ k + 1 < (stB ns cs k).os.length := by rw [List.length_map]; omega
        repeat walk_at "st"
        by_cases hlt : k + 1 < (stB ns cs k).os.length
        · rw [decide_eq_true (ea.mpr hlt)]
          repeat walk_at "st"
          refine ⟨fun σ' H' => ∃ m', m' < ns.length + cs.length - k ∧ ∃ (k : Nat) (kvs : List (L2.Key × V)) (xs : List V) (v5 v6 v9 v10 v11 v12 : Option V), σ' = [some (.ref p), some (.ref L), some (.ref D), some (.ref S), some (.ref N), v5, v6, some (.ref O), some (.ref U), v9, v10, v11, v12, none] ∧ (stB ns cs k).outs.length = k ∧ m' = ns.length + cs.length - k ∧ WrI S N O U H2 H' (stB ns cs k) kvs xs, fun _ _ h => h, ?_⟩
          repeat walk_at "st"
          obtain ⟨q, hq⟩ : ∃ q, (stB ns cs k).os[k + 1]? = some q := ⟨_, List.getElem?_eq_getElem hlt⟩
          have hq' : (stB ns cs k).os[(stB ns cs k).outs.length + 1]? = some q := by rw [hk]; exact hq
          refine k_ixL (.inl (.inl hS8)) (atI_of (by omega) (by
            rw [show (((xs.length : Nat) : Int) + 1).toNat = k + 1 by omega, List.getElem?_map, hq]; rfl)) ?_
          repeat walk_at "st"
          have hA8 := hA.ex (e02.trans I.h.e)
          obtain ⟨dx8, tn8, tc8, d8, kvs8, hA9⟩ := id hA8
          refine ⟨p, dx8, _, rfl, hA9.ins, hf_cell _ _ _, ?_⟩
          repeat walk_at "st"
          refine ⟨p, q, ns, cs, rfl, hA8, fun v hv => ?_⟩
          repeat walk_at "st"
          rcases step_is (ns := ns) (cs := cs) hq' with ⟨hc, hs⟩ | ⟨c, hc, hs⟩
          · have hs' : stB ns cs (k + 1) = _ := hs
            rw [hc] at hv
            cases hv
            rw [decide_eq_true (rfl : V.non = V.non)]
            repeat walk_at "st"
            intro H9 b9 h9
            refine ⟨ns.length + cs.length - (k + 1), by omega, k + 1, kvs, xs ++ [.non], _, _, _, _, _, _, rfl, by rw [hs']; dsimp only; rw [List.length_append, hk]; rfl, rfl, ?_⟩
            rw [hs']
            exact ⟨⟨ExB.old I.h.e hO2 b9, b9 _ _ nSO hS8, b9 _ _ nNO hN8, I.h.d⟩, h9, (I.v.mono fun t ys ht => b9 _ _ (ne_of ht hO8 (fun z => nomatch z)) ht).snoc rfl, b9 _ _ (Ne.symm nOU) hU8⟩
          · have hs' : stB ns cs (k + 1) = _ := hs
            rw [hc] at hv
            obtain ⟨t, rfl, ht⟩ := hv
            rw [decide_eq_false (show ¬ V.ref t = V.non from fun z => nomatch z)]
            repeat walk_at "st"
            refine ⟨p, D, q, ns, cs, kvp, c, rfl, hA8, I.h.e.get hD, pld, hc, spot_plain co h0 (o.sp q (List.mem_of_getElem? hq)), (fun c hc => (hcs c hc).2.2), fun H9 t9 e9 h9 => ?_⟩
            repeat walk_at "st"
            have hS9 := e9.get hS8
            have hN9 := e9.get hN8
            have hO9 := e9.get hO8
            have hU9 := e9.get hU8
            have ht9 := e9.get ht
            unfold rowT at ht9
            have nd9 := I.h.d
            have e29 := I.h.e.trans e9
            have v9 := I.v.mono fun t ys ht => e9.get ht
            generalize goalC ns cs c = g at hs hs' h9 ⊢
            repeat walk_at "st"
            refine k_dinE (k := Sum.inl g) rfl (.inl hN9) ?_
            rw [nd9.1 g]
            by_cases hin : g ∈ (stB ns cs k).os
            case' pos =>
              rw [if_pos hin]
              repeat walk_at "st"
              have hao : addO (stB ns cs k).os g = (stB ns cs k).os := by rw [addO, if_pos hin]
              rw [← hao] at nd9 hS9
              clear hao
            case' neg =>
              rw [if_neg hin]
              repeat walk_at "st"
              refine k_dputE (k := Sum.inl g) rfl hN9 (by rw [sizeLine_eq]; omega) fun H10 b10 h10 => ?_
              have hS10 := b10 _ _ nSN hS9
              repeat walk_at "st"
              intro H11 b11 h11
              rw [List.length_map] at h10
              have nd9 := nd9.add hin
              have hS9 : H11 S = some (.lst ((addO (stB ns cs k).os g).map V.int)) := by
                rw [h11, addO, if_neg hin, List.map_append]
                rfl
              have hN9' := b11 _ _ (Ne.symm nSN) h10
              have hO9' := b11 _ _ (Ne.symm nSO) (b10 _ _ (Ne.symm nNO) hO9)
              have hU9' := b11 _ _ (Ne.symm nSU) (b10 _ _ (Ne.symm nNU) hU9)
              have ht9' := b11 _ _ (ne_of (b10 _ _ (ne_of ht9 hN9 (fun z => nomatch z)) ht9) hS10 (fun z => nomatch z)) (b10 _ _ (ne_of ht9 hN9 (fun z => nomatch z)) ht9)
              have e29' := ExB.old (ExB.old e29 hN2 b10) hS2 b11
              have v9' := v9.mono fun t ys ht => b11 _ _ (ne_of (b10 _ _ (ne_of ht hN9 (fun z => nomatch z)) ht) hS10 (fun z => nomatch z)) (b10 _ _ (ne_of ht hN9 (fun z => nomatch z)) ht)
              obtain ⟨kvs, hN9, nd9⟩ : ∃ kvs9, H11 N = some (.dK kvs9) ∧ NumD kvs9 (addO (stB ns cs k).os g) := ⟨_, hN9', nd9⟩
              have hO9 := hO9'
              have hU9 := hU9'
              have ht9 := ht9'
              have e29 := e29'
              have v9 := v9'
            all_goals
              repeat walk_at "st"
              refine k_dgetE (k := Sum.inl g) rfl (.inl hN9) (by rw [nd9.1 g, if_pos (addO_mem.mpr (.inr rfl))]) ?_
              repeat walk_at "st"
              intro t12 H12 ht12 e12 h12
              have hO12 := e12.get hO9
              repeat walk_at "st"
              intro H13 b13 h13
              have hU13 := b13 _ _ (Ne.symm nOU) (e12.get hU9)
              repeat walk_at "st"
              intro H14 b14 h14
              refine ⟨ns.length + cs.length - (k + 1), by omega, k + 1, kvs, xs ++ [.ref t12], _, _, _, _, _, _, rfl, ?_, rfl, ?_⟩
              · rw [hs']
                dsimp only
                rw [List.length_append, hk]
                rfl
              · rw [hs']
                refine ⟨⟨ExB.old (ExB.old (e29.trans e12) hO2 b13) hU2 b14, b14 _ _ nSU (b13 _ _ nSO (e12.get hS9)), b14 _ _ nNU (b13 _ _ nNO (e12.get hN9)), nd9⟩, b14 _ _ nOU h13, ?_, by rw [h14, List.map_append]; rfl⟩
                have mv : ∀ t ys, H12 t = some (.tup ys) → H14 t = some (.tup ys) := fun t ys ht => by
                  have h1 := b13 _ _ (ne_of ht hO12 (fun z => nomatch z)) ht
                  exact b14 _ _ (ne_of h1 hU13 (fun z => nomatch z)) h1
                exact (v9.mono fun t ys ht => mv _ _ (e12.get ht)).snoc ⟨t12, rfl, mv _ _ h12⟩
        · rw [decide_eq_false (fun z => hlt (ea.mp z))]
          repeat walk_at "st"
          have hend : (stB ns cs k).os.length = k + 1 := by omega
          have e08 := e02.trans I.h.e
          refine k_fldE (e08.get hA1.ins) T.cls_Heap T.no_Heap_names (hf_names _ _ _) ?_
          have hy8 := e08.sqT hy
          repeat walk_at "st"
          refine lc_vals (walk_tup (xs := ys)) ns hyl.symm (by omega) (fun _ => true) (fun n => V.int ((stB ns cs k).os.idxOf n.2 : Nat)) (fun H' e => e.sqT hy8) (fun i n x Hx H'' R1 R0 hn e y q1 q0 => ?_) (fun A1 H9 hA1' e9 h9 => ?_)
          · obtain ⟨rfl, y⟩ := y
            obtain ⟨q, hq, hsq⟩ := hyc i n hn
            rw [hq] at y
            cases y
            have hsq' := (e08.trans e).sqT hsq
            unfold nmT at hsq'
            repeat walk_at "st"
            refine ⟨rfl, ?_⟩
            repeat walk_at "st"
            refine k_dgetE (k := Sum.inl n.2) rfl (.inl (e.get hN8)) (by rw [I.h.d.1 n.2, if_pos (o.nm n (List.mem_of_getElem? hn))]) ?_
            exact q1 _ (Ex.refl _) rfl
          · rw [List.filter_eq_self.mpr fun _ _ => rfl] at h9
            repeat walk_at "st"
            have e09 := e08.trans e9
            refine k_fldE (e09.get hA1.ins) T.cls_Heap T.no_Heap_names (hf_names _ _ _) ?_
            have hy9 := e09.sqT hy
            repeat walk_at "st"
            refine lc_vals (walk_tup (xs := ys)) ns hyl.symm (by omega) (fun _ => true) (fun n => V.str n.1) (fun H' e => e.sqT hy9) (fun i n x Hx H'' R1 R0 hn e y q1 q0 => ?_) (fun A2 H10 hA2 e10 h10 => ?_)
            · obtain ⟨rfl, y⟩ := y
              obtain ⟨q, hq, hsq⟩ := hyc i n hn
              rw [hq] at y
              cases y
              have hsq' := (e09.trans e).sqT hsq
              unfold nmT at hsq'
              repeat walk_at "st"
              refine ⟨rfl, ?_⟩
              repeat walk_at "st"
              exact q1 _ (Ex.refl _) rfl
            · rw [List.filter_eq_self.mpr fun _ _ => rfl] at h10
              repeat walk_at "st"
              refine ⟨A2, A1, O, ns.map (·.1), atOf ns (stB ns cs k).os, (stB ns cs k).outs, rfl, .inl (.inl (.inl ?_)), .inl (.inl (.inl ?_)), ⟨xs, .inl (.inl (.inl ((e9.trans e10).get hO8))), ((I.v.mono fun t ys ht => (e9.trans e10).get ht).dp)⟩, by rw [List.length_map]; exact hln, by unfold atOf; rw [List.length_map, List.length_map], by omega, fun z hz => ?_, fun H11 f e11 hf10 hF => ?_⟩
              · rw [h10, List.map_map]
                rfl
              · rw [e10.get h9]
                unfold atOf
                rw [List.map_map]
                rfl
              · obtain ⟨n, hn, rfl⟩ := List.mem_map.mp hz
                exact hA1.sn n hn
              · have hU11 := (e9.trans (e10.trans e11)).get hU8
                repeat walk_at "st"
                refine k_tupL (.inl (.inl hU11)) fun u H12 hu12 e12 h12 => ?_
                repeat walk_at "st"
                intro t H13 ht13 e13 h13
                repeat walk_at "st"
                exact k1 met good hlo H13 t f u k (e09.trans (e10.trans (e11.trans (e12.trans e13)))) h13 ((e09.trans e10).none hf10) ⟨hk, hend⟩ (hF.ex (e12.trans e13)) (.inl (.inl (e13.get h12)))
end


/-! ### pools, dicts -/
theorem pick (L : List Int) {r : Int} (h0 : 0 ≤ r) (h1 : r < L.length) : ∃ v, v ∈ L ∧ atI (L.map V.int) r = some (.int v) := by
  have hlt : r.toNat < L.length := by omega
  exact ⟨L[r.toNat], List.getElem_mem hlt, atI_of h0 (by rw [List.getElem?_map, List.getElem?_eq_getElem hlt]; rfl)⟩
theorem Pool.ex {H H' : Hp} {p : Addr} (e : Ex H H') (h : Pool H p) : Pool H' p := let ⟨o, ho, po⟩ := h; ⟨o, e.get ho, po⟩
theorem ExB.skip {p l : Addr} {H H1 H2 : Hp} (b : ExB p H H1) (hl : H l = none) (b2 : ExB l H1 H2) : ExB p H H2 := fun a o hne ha => b2 _ _ (fun z => by rw [z, hl] at ha; cases ha) (b a o hne ha)
theorem Pool.exB {H H' : Hp} {p l : Addr} (n : p ≠ l) (b : ExB l H H') (h : Pool H p) : Pool H' p := let ⟨o, ho, po⟩ := h; ⟨o, b _ _ n ho, po⟩
theorem npool {p q : Addr} {H : Hp} (hp : Pool H p) (hq : H q = none) : q ≠ p := fun z => by
  obtain ⟨o, ho, po⟩ := hp
  rw [z, ho] at hq
  cases hq
theorem ExB.back {p q : Addr} {H H1 : Hp} (b : ExB p H H1) (n : q ≠ p) (h : H1 q = none) : H q = none := by
  cases e : H q with
  | none => rfl
  | some o => rw [b _ _ n e] at h; cases h
def CellL (ql : List Int) (c : Cell) : Prop := CellIn c ∧ c.l ∈ ql
def PartAt (H : Hp) (ql pl : List Int) (d : Addr) : Prop := ∃ cs, DictC H d cs ∧ ∀ c, c ∈ cs → CellL ql c ∧ c.a ∈ pl
theorem PartAt.ex {H H' : Hp} {ql pl : List Int} {d : Addr} (e : Ex H H') (h : PartAt H ql pl d) : PartAt H' ql pl d := let ⟨cs, a, b⟩ := h; ⟨cs, a.ex e, b⟩
theorem DictC.exB {H H' : Hp} {d l : Addr} {kvs : List (L2.Key × V)} {cs : List Cell} (hl : H l = some (.dK kvs)) (n : d ≠ l) (b : ExB l H H') (h : DictC H d cs) : DictC H' d cs := let ⟨kws, h1, h2, h3⟩ := h; ⟨kws, b _ _ n h1, RowsK.mono (fun c v => TRow.exB hl b) h2, h3⟩
theorem PartAt.put {H H' : Hp} {ql pl : List Int} {d l t : Addr} {kvs : List (L2.Key × V)} {c : Cell} (hl : H l = some (.dK kvs)) (b : ExB l H H') (h' : H' l = some (.dK (putK kvs (kC c) (.ref t)))) (ht : H t = some (.tup (rowT c))) (hc : CellL ql c ∧ c.a ∈ pl) (h : PartAt H ql pl d) : PartAt H' ql pl d := by
  obtain ⟨cs, hd, hi⟩ := h
  by_cases n : d = l
  · subst n
    obtain ⟨kws, h1, h2, h3⟩ := hd
    obtain rfl : kvs = kws := HO.dK.inj (Option.some.inj (hl.symm.trans h1))
    have ht' : TRow H' c (.ref t) := ⟨t, rfl, b _ _ (fun z => by rw [z, hl] at ht; cases ht) ht⟩
    refine ⟨putR kC cs c, ⟨_, h', RowsK.put (RowsK.mono (fun c v => TRow.exB hl b) h2) ht', putR_keys cs c h3⟩, fun x hx => ?_⟩
    unfold putR at hx
    split at hx
    · obtain ⟨y, hy, e⟩ := List.mem_map.mp hx
      split at e
      · rw [← e]; exact hc
      · rw [← e]; exact hi y hy
    · rcases List.mem_append.mp hx with q | q
      · exact hi x q
      · rw [List.mem_singleton.mp q]; exact hc
  · exact ⟨cs, DictC.exB hl n b hd, hi⟩
theorem DictN.exB {H H' : Hp} {d l : Addr} {ns : List (Str × Int)} (n : d ≠ l) (b : ExB l H H') (h : DictN H d ns) : DictN H' d ns := ⟨b _ _ n h.1, h.2⟩
theorem at_list {L : List Int} {r : Int} (h0 : 0 ≤ r) (h1 : r < L.length) : ∃ v, v ∈ L ∧ L[r.toNat]? = some v ∧ atI (L.map V.int) r = some (.int v) := by
  have hlt : r.toNat < L.length := by omega
  exact ⟨L[r.toNat], List.getElem_mem hlt, List.getElem?_eq_getElem hlt, atI_of h0 (by rw [List.getElem?_map, List.getElem?_eq_getElem hlt]; rfl)⟩
theorem abc3 {i : Int} (h0 : 0 ≤ i) (h1 : i < 3) : ∃ c, atI ("abc" : Str).cps.toList i = some c ∧ inV (.str ⟨#[c]⟩) (marks.map V.str) = true ∧ PyData.strOk ⟨#[c]⟩ = true := by
  have h : i = 0 ∨ i = 1 ∨ i = 2 := by omega
  rcases h with rfl | rfl | rfl
  · exact ⟨97, rfl, by decide +kernel, by decide +kernel⟩
  · exact ⟨98, rfl, by decide +kernel, by decide +kernel⟩
  · exact ⟨99, rfl, by decide +kernel, by decide +kernel⟩
theorem Pool.ne {H : Hp} {p a : Addr} (h : Pool H p) {o : HO} (ha : H a = some o) (hn : ∀ l, o ≠ .lst l) : a ≠ p := fun z => by
  obtain ⟨u, hu, ⟨c, ds, e, _⟩⟩ := h
  rw [z, hu] at ha
  exact hn _ ((Option.some.inj ha).symm.trans e)
theorem DictC.exP {H H' : Hp} {p d : Addr} {cs : List Cell} (hp : Pool H p) (b : ExB p H H') (h : DictC H d cs) : DictC H' d cs := let ⟨kvs, h1, h2, h3⟩ := h; ⟨kvs, b _ _ (hp.ne h1 (fun _ z => nomatch z)) h1, h2.mono fun c v ⟨t, e, ht⟩ => ⟨t, e, b _ _ (hp.ne ht (fun _ z => nomatch z)) ht⟩, h3⟩
theorem DictN.exP {H H' : Hp} {p d : Addr} {ns : List (Str × Int)} (hp : Pool H p) (b : ExB p H H') (h : DictN H d ns) : DictN H' d ns := ⟨b _ _ (hp.ne h.1 (fun _ z => nomatch z)) h.1, h.2⟩
theorem PartAt.exP {H H' : Hp} {p d : Addr} {ql pl : List Int} (hp : Pool H p) (b : ExB p H H') (h : PartAt H ql pl d) : PartAt H' ql pl d := let ⟨cs, a, i⟩ := h; ⟨cs, a.exP hp b, i⟩
theorem part_len {H : Hp} {d : Addr} {cs : List Cell} {ql pl : List Int} (h : DictC H d cs) (i : ∀ c, c ∈ cs → CellL ql c ∧ c.a ∈ pl) : cs.length ≤ pl.length := by
  obtain ⟨_, _, _, nd⟩ := h
  have := nodup_le (ckeys nd) (l2 := pl) (fun x hx => by
    obtain ⟨c, hc, e⟩ := List.mem_map.mp hx
    rw [← e]
    exact (i c hc).2)
  rwa [List.length_map] at this
theorem DictC.exT {H H' : Hp} {d : Addr} {cs : List Cell} (e : ExT H H') (h : DictC H d cs) : DictC H' d cs := let ⟨kvs, h1, h2, h3⟩ := h; ⟨kvs, e _ _ (fun _ z => nomatch z) h1, h2.mono fun c v => TRow.exT e, h3⟩
/-! ### _law_drawn -/
def RowD (p : Addr) (H : Hp) (size : Int) (v : V) : Prop := ∃ (t : Addr) (m : Str) (l s : Int), v = .ref t ∧ t ≠ p ∧ H t = some (.tup [.str m, .int l, .int s]) ∧ inV (.str m) (marks.map V.str) = true ∧ PyData.strOk m = true ∧ (0 ≤ l ∧ l < size + 3) ∧ (1 ≤ s ∧ s ≤ 12)
theorem RowD.mv {p q : Addr} {H H' H2 : Hp} {size : Int} {v : V} {rs : List V} (b : ExB p H H') (b2 : ExB q H' H2) (hq : H q = some (.lst rs)) (h : RowD p H size v) : RowD p H2 size v := by
  obtain ⟨t, m, l, s, e, n1, h1, g⟩ := h
  exact ⟨t, m, l, s, e, n1, b2 _ _ (fun z => by rw [z, hq] at h1; cases h1) (b _ _ n1 h1), g⟩
theorem RowD.ex {p : Addr} {H H' : Hp} {size : Int} {v : V} (b : ExB p H H') (h : RowD p H size v) : RowD p H' size v := by
  obtain ⟨t, m, l, s, e, n1, h1, g⟩ := h
  exact ⟨t, m, l, s, e, n1, b _ _ n1 h1, g⟩
theorem RowD.exD {p q : Addr} {H H' : Hp} {size : Int} {v : V} {kvs : List (L2.Key × V)} (hq : H q = some (.dK kvs)) (b : ExB q H H') (h : RowD p H size v) : RowD p H' size v := by
  obtain ⟨t, m, l, s, e, n1, h1, g⟩ := h
  exact ⟨t, m, l, s, e, n1, b _ _ (fun z => by rw [z, hq] at h1; cases h1) h1, g⟩
structure DrawnOk (H H' : Hp) (na ca la : Addr) (ns : List (Str × Int)) (xs : List Cell) (pl : List Int) : Prop where
  names : DictN H' na ns
  nin : ∀ n, n ∈ ns → NmIn n
  nl : ns.length ≤ 8
  cells : DictC H' ca xs
  cin : ∀ c, c ∈ xs → CellIn c
  cl : xs.length ≤ 58
  pls : H' la = some (.lst (pl.map V.int))
  plc : ∃ ps, pl = 0 :: ps ∧ (∀ q ∈ ps, 1 ≤ q ∧ q ≤ 9999) ∧ ps.length ≤ 60 ∧ 2 ≤ ps.length ∧ ∀ c ∈ xs, c.a ∈ ps
  pnd : pl.Nodup
  nin2 : ∀ n ∈ ns, n.2 ∈ pl
  cin2 : ∀ c ∈ xs, c.a ∈ pl ∧ c.l ∈ pl
  ne : na ≠ ca
  fresh : H na = none ∧ H ca = none ∧ H la = none
def spDrawn : Sp := fun vs H Q _ => ∃ (p : Addr), vs = [.ref p] ∧ Pool H p ∧ ∀ H' t na ca la ns xs pl, ExB p H H' → Pool H' p → H' t = some (.tup [.ref na, .ref ca, .ref la]) → DrawnOk H H' na ca la ns xs pl → Q (.ref t) H'
def RwD (p rw0 vl : Addr) (size many : Int) (H : Hp) (i : Nat) (σ : L2.St) (H' : Hp) : Prop := ∃ (v5 v6 v7 v8 v9 v10 : Option V) (rs : List V), σ = [some (.ref p), some (.int size), some (.int many), some (.ref rw0), some (.ref vl), v5, v6, v7, v8, v9, v10, none, none, none, none, none] ∧ ExB p H H' ∧ Pool H' p ∧ H' rw0 = some (.lst rs) ∧ H' vl = some (.lst []) ∧ rs.length = i ∧ ∀ v ∈ rs, RowD p H' size v
def ValD (p rw0 vl : Addr) (size many : Int) (v6 v7 v8 v9 v10 : Option V) (rs : List V) (H : Hp) (i : Nat) (σ : L2.St) (H' : Hp) : Prop := ∃ (v5 v11 : Option V) (vs : List Int), σ = [some (.ref p), some (.int size), some (.int many), some (.ref rw0), some (.ref vl), v5, v6, v7, v8, v9, v10, v11, none, none, none, none] ∧
  ExB p H H' ∧ Pool H' p ∧ H' vl = some (.lst (vs.map V.int)) ∧ vs.length = i ∧ (∀ v ∈ vs, 0 ≤ v ∧ v < size + 3) ∧ H' rw0 = some (.lst rs) ∧ ∀ v ∈ rs, RowD p H' size v
def NmD (p rw0 vl wl la nd cd : Addr) (ql : List Int) (size many : Int) (v6 v7 v8 v9 v10 v11 : Option V) (zs : List Str) (Hb : Hp) (i : Nat) (σ : L2.St) (H' : Hp) : Prop := ∃ (v5 : Option V) (ns : List (Str × Int)), σ = [some (.ref p), some (.int size), some (.int many), some (.ref rw0), some (.ref vl), v5, v6, v7, v8, v9, v10, v11, some (.ref wl), some (.ref la), some (.ref nd), some (.ref cd)] ∧
  ExB nd Hb H' ∧ H' nd = some (.dK (kvN ns)) ∧ ns.map (·.1) = zs.take i ∧ ∀ n ∈ ns, NmIn n ∧ n.2 ∈ ql
def ClD (p rw0 vl wl la nd cd : Addr) (size many : Int) (ql pl : List Int) (Hb : Hp) (i : Nat) (σ : L2.St) (H' : Hp) : Prop := ∃ (v5 v6 v7 v8 v9 v10 v11 : Option V), σ = [some (.ref p), some (.int size), some (.int many), some (.ref rw0), some (.ref vl), v5, v6, v7, v8, v9, v10, v11, some (.ref wl), some (.ref la), some (.ref nd), some (.ref cd)] ∧
  ExB cd Hb H' ∧ PartAt H' ql pl cd
section
variable {P : Program} {w : World} {K : PySem.W.Frag} {mg : Str → Option Value} {base : Heap}
theorem c_l_drawn (T : Tx w K mg) : Cal P w K mg base CX0 3 "_law_drawn" ["pool"] spDrawn := by
  refine cal_mk T.D_l_drawn T.m__law_drawn sc_l_drawn (fun _ _ _ _ _ _ us hl => match us, hl with | [_], _ => rfl) (fun vs H Q E h => ?_) (fun f cdv A outer s H vs Q E hr h => ?_)
  · obtain ⟨p, rfl, _⟩ := h
    rfl
  · obtain ⟨p, rfl, hP, k⟩ := h
    have hu := hu_of hr
    refine ⟨_, ((pss_cons (ps_set (i := 1) sc_l_drawn.nd rfl (Or.inl rfl) (pe_ix (ix_listK (K := K) rfl) (pe_lst (pa_cons pe_int (pa_cons pe_int (pa_cons pe_int (pa_cons pe_int (pa_cons pe_int (pa_cons pe_int (pa_cons pe_int (pa_cons pe_int pa_nil))))))))) (by exact pe_cal (c_l_draw T) hr (by decide) rfl pass0 (pa_cons (pv 0) (pa_cons pe_int pa_nil))) (fun _ _ => rfl)))
  (pss_cons (ps_set (i := 2) sc_l_drawn.nd rfl (Or.inl rfl) (pe_ix (ix_listK (K := K) rfl) (pe_lst (pa_cons pe_int (pa_cons pe_int (pa_cons pe_int (pa_cons pe_int (pa_cons pe_int (pa_cons pe_int (pa_cons pe_int (pa_cons pe_int pa_nil))))))))) (by exact pe_cal (c_l_draw T) hr (by decide) rfl pass0 (pa_cons (pv 0) (pa_cons pe_int pa_nil))) (fun _ _ => rfl)))
  (pss_cons (ps_par (i := 3) (j := 4) rfl sc_l_drawn.nd rfl rfl (by decide) rfl rfl (pa_cons (pe_lst pa_nil) (pa_cons (pe_lst pa_nil) pa_nil)) rfl)
  (pss_cons (ps_for PassesOwn.never rfl (pi_range1 rfl T.f_range (pa_cons (pv 1) pa_nil)) (pg_name (i := 5) sc_l_drawn.nd rfl (Or.inl rfl)) (pss_cons (ps_par (i := 6) (j := 7) rfl sc_l_drawn.nd rfl rfl (by decide) rfl rfl (pa_cons (by exact pe_cal (c_l_draw T) hr (by decide) rfl pass0 (pa_cons (pv 0) (pa_cons pe_int pa_nil))) (pa_cons (by exact pe_cal (c_l_draw T) hr (by decide) rfl pass0 (pa_cons (pv 0) (pa_cons pe_int pa_nil))) pa_nil)) rfl)
  (pss_cons (ps_par (i := 8) (j := 9) rfl sc_l_drawn.nd rfl rfl (by decide) rfl rfl (pa_cons (pe_op o_add (pv 5) pe_int) (pa_cons pe_int pa_nil)) rfl)
  (pss_cons (ps_if (pt_cmpR o_lt (pv 1) pe_int (nomark _)) (pss_cons (ps_set (i := 8) sc_l_drawn.nd rfl (Or.inl rfl) (pe_op o_add (pe_ix (ix_listK (K := K) rfl) (pe_lst (pa_cons pe_int (pa_cons pe_int (pa_cons pe_int (pa_cons pe_int (pa_cons pe_int (pa_cons pe_int pa_nil))))))) (pv 5) (fun _ _ => rfl)) (pv 6)))
  (pss_one (ps_set (i := 9) sc_l_drawn.nd rfl (Or.inl rfl) (pe_ix (ix_listK (K := K) rfl) (pe_lst (pa_cons pe_int (pa_cons pe_int (pa_cons pe_int (pa_cons pe_int (pa_cons pe_int (pa_cons pe_int pa_nil))))))) (pv 5) (fun _ _ => rfl))))) (pss_one (ps_if (pt_cmpR o_gt (pv 6) pe_int (nomark _)) (pss_one (ps_set (i := 8) sc_l_drawn.nd rfl (Or.inl rfl) (pe_op o_add (pe_op o_mul pe_int (pv 6)) (pv 5)))) pss_nil)))
  (pss_cons (ps_if (pt_cmpR o_gt (pv 7) pe_int (nomark _)) (pss_one (ps_set (i := 9) sc_l_drawn.nd rfl (Or.inl rfl) (pe_op o_sub (pv 7) pe_int))) pss_nil)
  (pss_cons (ps_set (i := 10) sc_l_drawn.nd rfl (Or.inl rfl) (pe_ix ix_str pe_str (pe_op o_mod (pe_callTy cr_int rfl T.f_int (by decide +kernel) (pa_cons (pe_op o_add (pv 5) (by exact pe_cal (c_l_draw T) hr (by decide) rfl pass0 (pa_cons (pv 0) (pa_cons pe_int pa_nil)))) pa_nil)) pe_int) (fun _ _ => rfl)))
  (pss_one (ps_expr (pe_bm PySem.F.plainAttrs_list PySem.F.slot_list_append PySem.F.type_list_append mt_append (pv 3) (pa_cons (pe_tup (pa_cons (pv 10) (pa_cons (pe_op o_mod (pe_callTy cr_int rfl T.f_int (by decide +kernel) (pa_cons (pv 8) pa_nil)) (pe_op o_add (pv 1) pe_int)) (pa_cons (pv 9) pa_nil)))) pa_nil))))))))))
  (pss_cons (ps_for PassesOwn.never rfl (pi_range1 rfl T.f_range (pa_cons (pv 2) pa_nil)) (pg_name (i := 5) sc_l_drawn.nd rfl (Or.inl rfl)) (pss_cons (ps_set (i := 11) sc_l_drawn.nd rfl (Or.inl rfl) (pe_ix (ix_listK (K := K) rfl) (pe_lst (pa_cons pe_int (pa_cons pe_int (pa_cons pe_int (pa_cons pe_int (pa_cons pe_int (pa_cons pe_int (pa_cons pe_int (pa_cons pe_int pa_nil))))))))) (pv 5) (fun _ _ => rfl)))
  (pss_one (ps_expr (pe_bm PySem.F.plainAttrs_list PySem.F.slot_list_append PySem.F.type_list_append mt_append (pv 4) (pa_cons (pe_op o_mod (pe_callTy cr_int rfl T.f_int (by decide +kernel) (pa_cons (pe_op o_add (pv 11) (by exact pe_cal (c_l_draw T) hr (by decide) rfl pass0 (pa_cons (pv 0) (pa_cons pe_int pa_nil)))) pa_nil)) (pe_op o_add (pv 1) pe_int)) pa_nil))))))
  (pss_cons (ps_set (i := 12) sc_l_drawn.nd rfl (Or.inl rfl) (by exact pe_cal (c_l_names T) hr (by decide) rfl pass0 (pa_cons (pv 0) (pa_cons (pv 2) pa_nil))))
  (pss_cons (ps_set (i := 13) sc_l_drawn.nd rfl (Or.inl rfl) (by exact pe_cal (c_l_places T) hr (by decide) rfl pass0 (pa_cons (pv 0) (pa_cons (pe_op o_add (pv 1) pe_int) pa_nil))))
  (pss_cons (ps_par (i := 14) (j := 15) rfl sc_l_drawn.nd rfl rfl (by decide) rfl rfl (pa_cons pe_dnewK (pa_cons pe_dnewK pa_nil)) rfl)
  (pss_cons (ps_for PassesOwn.never rfl (pi_range1 rfl T.f_range (pa_cons (pe_callB cr_len rfl T.f_len (by decide +kernel) (pa_cons (pv 12) pa_nil)) pa_nil)) (pg_name (i := 5) sc_l_drawn.nd rfl (Or.inl rfl)) (pss_one (ps_dput hu (pv 14) (pe_ix (ix_listK (K := K) rfl) (pv 12) (pv 5) (fun _ _ => rfl)) (pe_ix (ix_listK (K := K) rfl) (pv 13) (pe_ix (ix_listK (K := K) rfl) (pv 4) (pv 5) (fun _ _ => rfl)) (fun _ _ => rfl)) rfl)))
  (pss_cons (ps_for PassesOwn.never rfl (pi_range1 rfl T.f_range (pa_cons (pv 1) pa_nil)) (pg_name (i := 5) sc_l_drawn.nd rfl (Or.inl rfl)) (pss_cons (ps_asg (pe_ix (ix_listK (K := K) rfl) (pv 3) (pv 5) (fun _ _ => rfl)) (pg_tup (n := 3) rfl (pgs_cons (pg_name (i := 10) sc_l_drawn.nd rfl (Or.inl rfl)) (pgs_cons (pg_name (i := 8) sc_l_drawn.nd rfl (Or.inl rfl)) (pgs_cons (pg_name (i := 9) sc_l_drawn.nd rfl (Or.inl rfl)) pgs_nil)))))
  (pss_one (ps_dput hu (pv 15) (pe_ix (ix_listK (K := K) rfl) (pv 13) (pe_op o_add (pv 5) pe_int) (fun _ _ => rfl)) (pe_tup (pa_cons (pv 10) (pa_cons (pe_ix (ix_listK (K := K) rfl) (pv 13) (pv 8) (fun _ _ => rfl)) (pa_cons (pv 9) pa_nil)))) rfl))))
  (pss_one (ps_ret (pe_tup (pa_cons (pv 14) (pa_cons (pv 15) (pa_cons (pv 13) pa_nil))))))))))))))))), ?_⟩
    dsimp only [cxOf, Cx.nox]
    repeat walk_at "st"
    intro q1 H1 hq1 e1 h1
    repeat walk_at "st"
    refine ⟨p, 8, rfl, hP.ex e1, by decide, fun r1 H2 r10 r11 P2 b2 => ?_⟩
    have h2 := b2 _ _ (npool hP hq1) h1
    obtain ⟨size, hsz, hs⟩ := pick [6, 3, 5, 4, 1, 58, 0, 2] r10 (by exact r11)
    have hsz2 : 0 ≤ size ∧ size ≤ 58 := by
      have : ∀ v ∈ [(6 : Int), 3, 5, 4, 1, 58, 0, 2], 0 ≤ v ∧ v ≤ 58 := by decide
      exact this size hsz
    refine k_ixL (.inl (.inl h2)) hs ?_
    repeat walk_at "st"
    intro q3 H3 hq3 e3 h3
    repeat walk_at "st"
    refine ⟨p, 8, rfl, P2.ex e3, by decide, fun r2 H4 r20 r21 P4 b4 => ?_⟩
    have h4 := b4 _ _ (npool P2 hq3) h3
    obtain ⟨many, hmn, hm⟩ := pick [2, 1, 3, 0, 2, 8, 4, 5] r20 (by exact r21)
    have hmn2 : 0 ≤ many ∧ many ≤ 8 := by
      have : ∀ v ∈ [(2 : Int), 1, 3, 0, 2, 8, 4, 5], 0 ≤ v ∧ v ≤ 8 := by decide
      exact this many hmn
    refine k_ixL (.inl (.inl h4)) hm ?_
    repeat walk_at "st"
    intro rw0 H6 hrw e6 h6
    repeat walk_at "st"
    intro vl H7 hvl e7 h7
    repeat walk_at "st"
    have e47 := e6.trans e7
    have h6 := e7.get h6
    have P7 : Pool H7 p := P4.ex e47
    have b04 : ExB p H H4 := (ExB.of e1).trans (b2.trans ((ExB.of e3).trans b4))
    have b07 : ExB p H H7 := b04.trans (ExB.of e47)
    have nlp : rw0 ≠ p := npool P4 hrw
    have nvl : vl ≠ p := npool (P4.ex e6) hvl
    have nrv : rw0 ≠ vl := fun z => by
      have := e6.none (z ▸ hvl)
      rename_i hh
      rw [← z] at hvl
      exact absurd hvl (by
        intro q
        have := hh
        rw [q] at this
        cases this)
    have hrw0 : H rw0 = none := ExB.back b04 nlp hrw
    have hvl0 : H vl = none := ExB.back (b04.trans (ExB.of e6)) nvl hvl
    refine for_range (lo := 0) (RwD p rw0 vl size many H) ⟨none, none, none, none, none, none, [], rfl, b07, P7, h6, h7, rfl, (fun _ h => nomatch h)⟩ (fun i σ' H' hi ⟨v5, v6, v7, v8, v9, v10, rs, es, b, hP', hL, hV, hlen, rg⟩ => ?_) (fun σ' H' ⟨v5, v6, v7, v8, v9, v10, rs, es, b, hP', hL, hV, hlen, rg⟩ => ?_)
    · subst es
      repeat walk_at "st"
      refine ⟨p, 60, rfl, hP', by decide, fun r5 Hq1 r50 r51 Pq1 bq1 => ?_⟩
      repeat walk_at "st"
      refine ⟨p, 30, rfl, Pq1, by decide, fun r6 Hq r60 r61 Pq bq2 => ?_⟩
      have bq : ExB p H' Hq := bq1.trans bq2
      repeat walk_at "st"
      by_cases c7 : size < 7
      case' pos =>
        refine k_iteT c7 ?_
        repeat walk_at "st"
        intro qx Hn hqx eN1 hqxl
        repeat walk_at "st"
        obtain ⟨low, _, hlow⟩ := pick [2, 3, 4, 2, 3, 7] (r := 0 + (i : Int)) (by omega) (by show _ < (6 : Int); omega)
        refine k_ixL (.inl (.inl hqxl)) hlow ?_
        repeat walk_at "st"
        intro qy Hn hqy eN2 hqyl
        have eN := eN1.trans eN2
        repeat walk_at "st"
        obtain ⟨sh, hsm, hshr⟩ := pick [12, 12, 6, 6, 12, 12] (r := 0 + (i : Int)) (by omega) (by show _ < (6 : Int); omega)
        have hs : 1 ≤ sh ∧ sh ≤ 12 := by
          have : ∀ v ∈ [(12 : Int), 12, 6, 6, 12, 12], 1 ≤ v ∧ v ≤ 12 := by decide
          exact this sh hsm
        refine k_ixL (.inl (.inl hqyl)) hshr ?_
        repeat walk_at "st"
        obtain ⟨link, elk⟩ : ∃ l : Int, l = low + r5 := ⟨_, rfl⟩
        rw [← elk]
      case' neg =>
        refine k_iteF c7 ?_
        repeat walk_at "st"
        obtain ⟨Hn, hHn⟩ : ∃ Hn, Hn = Hq := ⟨_, rfl⟩
        rw [← hHn]
        have eN : Ex Hq Hn := by rw [hHn]; exact Ex.refl _
        obtain ⟨sh, hsh⟩ : ∃ s1 : Int, s1 = 12 := ⟨_, rfl⟩
        have hs : 1 ≤ sh ∧ sh ≤ 12 := by omega
        rw [← hsh]
        by_cases c47 : r5 > 47
        case' pos =>
          refine k_iteT c47 ?_
          repeat walk_at "st"
          obtain ⟨link, elk⟩ : ∃ l : Int, l = 5 * r5 + (0 + (i : Int)) := ⟨_, rfl⟩
          rw [← elk]
        case' neg =>
          refine k_iteF c47 ?_
          repeat walk_at "st"
          obtain ⟨link, elk⟩ : ∃ l : Int, l = 0 + (i : Int) + 2 := ⟨_, rfl⟩
          rw [← elk]
      all_goals
        have Pn := Pq.ex eN
        repeat walk_at "st"
        by_cases ct : r6 > 17
      all_goals first
        | (refine k_iteT ct ?_
           repeat walk_at "st"
           obtain ⟨shr, esh, hsh⟩ : ∃ s1 : Int, s1 = r6 - 17 ∧ 1 ≤ s1 ∧ s1 ≤ 12 := ⟨_, rfl, by omega, by omega⟩
           rw [← esh])
        | (refine k_iteF ct ?_
           repeat walk_at "st"
           obtain ⟨shr, esh, hsh⟩ : ∃ s1 : Int, s1 = sh ∧ 1 ≤ s1 ∧ s1 ≤ 12 := ⟨sh, rfl, hs⟩
           rw [← esh])
      all_goals
        refine ⟨p, 3, rfl, Pn, by decide, fun r7 H10 r70 r71 P10 b10 => ?_⟩
        repeat walk_at "st"
        obtain ⟨c, hca, hcm, hcs⟩ := abc3 (i := (0 + (i : Int) + r7) % 3) (Int.emod_nonneg _ (by decide)) (Int.emod_lt_of_pos _ (by decide))
        refine ⟨"abc", _, c, rfl, rfl, by rw [sizeLine_eq]; decide, hca, ?_⟩
        obtain ⟨lk, elk2, hlk⟩ : ∃ l1, l1 = link % (size + 3) ∧ 0 ≤ l1 ∧ l1 < size + 3 := ⟨_, rfl, Int.emod_nonneg _ (by omega), Int.emod_lt_of_pos _ (by omega)⟩
        have hs3 : size + 3 ≠ 0 := by omega
        have bE : ExB p H' H10 := bq.trans ((ExB.of eN).trans b10)
        have l10 := bE _ _ nlp hL
        repeat walk_at "st"
        rw [← elk2]
        intro t11 H11 ht11 e11 h11
        have l11 := e11.get l10
        have vv11 := e11.get (bE _ _ nvl hV)
        repeat walk_at "st"
        intro H12 b12 h12
        have P11 : Pool H11 p := P10.ex e11
        have bE2 : ExB p H' H11 := bE.trans (ExB.of e11)
        refine ⟨_, _, _, _, _, _, rs ++ [.ref t11], rfl, ?_, P11.exB (Ne.symm nlp) b12, h12, b12 _ _ (Ne.symm nrv) vv11, by rw [List.length_append, hlen]; rfl, fun v hv => ?_⟩
        · exact ExB.skip (b.trans bE2) hrw0 b12
        · rcases List.mem_append.mp hv with q | q
          · exact (rg v q).mv bE2 b12 hL
          · have : v = .ref t11 := by simpa using q
            rw [this]
            exact ⟨t11, ⟨#[c]⟩, lk, shr, rfl, npool P10 ht11, b12 _ _ (fun z => by rw [z, l10] at ht11; cases ht11) h11, hcm, hcs, hlk, hsh⟩
    · subst es
      repeat walk_at "st"
      refine for_range (lo := 0) (ValD p rw0 vl size many v6 v7 v8 v9 v10 rs H) ⟨_, _, [], rfl, b, hP', hV, rfl, (fun _ h => nomatch h), hL, rg⟩ (fun i σ' H2 hi ⟨v5, v11, vs, es, bv, Pv, hv, lv, gv, hL2, rg2⟩ => ?_) (fun σ' H2 ⟨v5, v11, vs, es, bv, Pv, hv, lv, gv, hL2, rg2⟩ => ?_)
      · subst es
        repeat walk_at "st"
        intro qx Hn hqx eN hqxl
        repeat walk_at "st"
        obtain ⟨low, _, hlow⟩ := pick [1, 5, 6, 2, 0, 7, 8, 3] (r := 0 + (i : Int)) (by omega) (by show _ < (8 : Int); omega)
        refine k_ixL (.inl (.inl hqxl)) hlow ?_
        repeat walk_at "st"
        refine ⟨p, 60, rfl, Pv.ex eN, by decide, fun r5 H3 r50 r51 P3 b3 => ?_⟩
        have bE : ExB p H2 H3 := (ExB.of eN).trans b3
        have hv3 := bE _ _ nvl hv
        have hs3 : size + 3 ≠ 0 := by omega
        repeat walk_at "st"
        intro H4 b4' h4'
        obtain ⟨y, ey, hy⟩ : ∃ y, y = (low + r5) % (size + 3) ∧ 0 ≤ y ∧ y < size + 3 := ⟨_, rfl, Int.emod_nonneg _ (by omega), Int.emod_lt_of_pos _ (by omega)⟩
        rw [← ey] at h4'
        have ehd : vs.map V.int ++ [V.int y] = (vs ++ [y]).map V.int := by rw [List.map_append]; rfl
        rw [ehd] at h4'
        refine ⟨_, _, vs ++ [y], rfl, ExB.skip (bv.trans bE) hvl0 b4', P3.exB (Ne.symm nvl) b4', h4', by rw [List.length_append, lv]; rfl, fun v hv => ?_, b4' _ _ nrv (bE _ _ nlp hL2), fun v hv' => (rg2 v hv').mv bE b4' hv⟩
        rcases List.mem_append.mp hv with q | q
        · exact gv v q
        · rw [List.mem_singleton.mp q]
          exact hy
      · subst es
        repeat walk_at "st"
        have b2' : ExB p H H2 := bv
        refine ⟨p, many, rfl, Pv, hmn2.1, hmn2.2, fun H3 wl zs b3 P3 hwl h3' nz gz lz _ => ?_⟩
        repeat walk_at "st"
        refine ⟨p, size + 2, rfl, P3, by omega, by omega, fun H5 la ps b5 P5 hla h5 lp np gp => ?_⟩
        repeat walk_at "st"
        refine k_dnew fun nd H6 hnd e6 h6 => ?_
        repeat walk_at "st"
        refine k_dnew fun cd H8 hcd e8 h8 => ?_
        repeat walk_at "st"
        have nwl := npool Pv hwl
        have nla := npool P3 hla
        have eD : Ex H5 H8 := e6.trans e8
        have w8 := eD.get (b5 _ _ nwl h3')
        have l8 := eD.get h5
        have vv8 := eD.get (b5 _ _ nvl (b3 _ _ nvl hv))
        have r8 := eD.get (b5 _ _ nlp (b3 _ _ nlp hL2))
        have bT : ExB p H2 H8 := b3.trans (b5.trans (ExB.of eD))
        have rg8 : ∀ v ∈ rs, RowD p H8 size v := fun v hv => (rg2 v hv).ex bT
        have b05 : ExB p H H5 := b2'.trans (b3.trans b5)
        have n8 : H8 nd = some (.dK []) := e8.get h6
        have n_nd : nd ≠ p := npool P5 hnd
        have n_cd : cd ≠ p := npool (P5.ex e6) hcd
        have ncn : nd ≠ cd := ne_of_none h6 hcd
        have hnd0 : H nd = none := ExB.back b05 n_nd hnd
        have hcd0 : H cd = none := ExB.back (b05.trans (ExB.of e6)) n_cd hcd
        have P8' : Pool H8 p := P5.ex eD
        have hz8 : ((zs.map V.str).length : Int) ≤ 8 := by rw [List.length_map]; omega
        repeat walk_at "st"
        refine for_range (lo := 0) (NmD p rw0 vl wl la nd cd ((0 : Int) :: ps) size many v6 v7 v8 v9 v10 v11 zs H8) ⟨_, [], rfl, ExB.of (Ex.refl _), n8, rfl, fun _ h => nomatch h⟩ (fun i σ' Ha hi ⟨v5, ns, es, ba, hna, ens, gns⟩ => ?_) (fun σ' Ha ⟨v5, ns, es, ba, hna, ens, gns⟩ => ?_)
        · subst es
          have hi : i < zs.length := by simpa using hi
          obtain ⟨v, hvm, _, hva⟩ := at_list (L := vs) (r := 0 + (i : Int)) (by omega) (by omega)
          have hv3 := gv v hvm
          obtain ⟨q, hqm, _, hqa⟩ := at_list (L := (0 : Int) :: ps) (r := v) hv3.1 (by rw [List.length_cons, lp]; omega)
          obtain ⟨z, hz, hza⟩ : ∃ z, zs[i]? = some z ∧ atI (zs.map V.str) (0 + (i : Int)) = some (.str z) := ⟨zs[i], List.getElem?_eq_getElem hi, atI_of (by omega) (by rw [List.getElem?_map]; simp [hi])⟩
          have la2 := ba _ _ (ne_of_none h5 hnd) l8
          have wa2 := ba _ _ (ne_of_none (b5 _ _ nwl h3') hnd) w8
          have va2 := ba _ _ (ne_of_none (b5 _ _ nvl (b3 _ _ nvl hv)) hnd) vv8
          repeat walk_at "st"
          refine k_ixL (.inl (.inl va2)) hva ?_
          refine k_ixL (.inl (.inl la2)) hqa ?_
          repeat walk_at "st"
          refine k_ixL (.inl (.inl wa2)) hza ?_
          have hnl : ns.length = i := by
            have := congrArg List.length ens
            rw [List.length_map, List.length_take] at this
            omega
          refine k_dputE (k := Sum.inr z) rfl hna (by unfold kvN; rw [List.length_map, sizeLine_eq]; omega) fun Hc bc hc => ?_
          repeat walk_at "st"
          have hzn : z ∉ ns.map (·.1) := by rw [ens]; exact take_nodup nz hz
          rw [kvN_put (n := (z, q)) hzn] at hc
          refine ⟨_, ns ++ [(z, q)], rfl, ba.trans bc, hc, ?_, fun n hn => ?_⟩
          · rw [List.map_append, ens, List.take_add_one, hz]
            rfl
          · rcases List.mem_append.mp hn with w | w
            · exact gns n w
            · rw [List.mem_singleton.mp w]
              have g := gz z (List.mem_of_getElem? hz)
              have hq : 0 ≤ q ∧ q ≤ 9999 := by
                rcases List.mem_cons.mp hqm with w | w
                · omega
                · have := gp q w; omega
              exact ⟨⟨g.1, g.2.1, hq.1, hq.2, g.2.2⟩, hqm⟩
        · subst es
          have hpl1 : ps.length = size.toNat + 2 := by omega
          have ens2 : ns.map (·.1) = zs := by rw [ens, List.length_map]; exact List.take_of_length_le (Nat.le_refl _)
          have hN : DictN Ha nd ns := ⟨hna, by rw [ens2]; exact nz⟩
          have nsl : ns.length ≤ 8 := by
            have := congrArg List.length ens2
            rw [List.length_map] at this
            omega
          have bHa : ExB p H Ha := ExB.skip (b05.trans (ExB.of eD)) hnd0 ba
          have rga : ∀ v ∈ rs, RowD p Ha size v := fun v hv => (rg8 v hv).exD n8 ba
          have laa := ba _ _ (ne_of_none h5 hnd) l8
          have raa := ba _ _ (ne_of_none (b5 _ _ nlp (b3 _ _ nlp hL2)) hnd) r8
          have caa : Ha cd = some (.dK []) := ba _ _ (Ne.symm ncn) h8
          have Pa : Pool Ha p := P8'.exB (Ne.symm n_nd) ba
          have A0 : PartAt Ha ((0 : Int) :: ps) (ps.take size.toNat) cd := ⟨[], ⟨[], caa, .nil, List.nodup_nil⟩, fun _ h => nomatch h⟩
          have n_la : la ≠ cd := ne_of_none (e6.get h5) hcd
          have n_rw : rw0 ≠ cd := ne_of_none (e6.get (b5 _ _ nlp (b3 _ _ nlp hL2))) hcd
          repeat walk_at "st"
          refine for_range (lo := 0) (ClD p rw0 vl wl la nd cd size many ((0 : Int) :: ps) (ps.take size.toNat) Ha) ⟨_, _, _, _, _, _, _, rfl, ExB.of (Ex.refl _), A0⟩ (fun i σ' Hb hi ⟨v5, v6, v7, v8, v9, v10, v11, es, bb, B0⟩ => ?_) (fun σ' Hb ⟨v5, v6, v7, v8, v9, v10, v11, es, bb, B0⟩ => ?_)
          · subst es
            have hir : i < rs.length := by omega
            have lb := bb _ _ n_la laa
            have rb := bb _ _ n_rw raa
            obtain ⟨t, m, l, s, er, n1, ht, gm, gmo, gl, gs⟩ := (rga rs[i] (List.getElem_mem hir)).exD caa bb
            have hra : atI rs (0 + (i : Int)) = some (.ref t) := atI_of (by omega) (by rw [← er]; simp [hir])
            have hip : i < ps.length := by omega
            have hpa : atI (((0 : Int) :: ps).map V.int) (0 + (i : Int) + 1) = some (.int ps[i]) := atI_of (by omega) (by
              have e : (0 + (i : Int) + 1).toNat = i + 1 := by omega
              rw [e, List.getElem?_map, List.getElem?_cons_succ, List.getElem?_eq_getElem hip]
              rfl)
            have hpm : ps[i] ∈ ps.take size.toNat := List.mem_iff_getElem?.mpr ⟨i, by rw [List.getElem?_take, if_pos (by omega)]; simp [hip]⟩
            obtain ⟨q, hqm, _, hqa⟩ := at_list (L := (0 : Int) :: ps) (r := l) gl.1 (by rw [List.length_cons]; omega)
            have hq : 0 ≤ q ∧ q ≤ 9999 := by
              rcases List.mem_cons.mp hqm with w | w
              · omega
              · have := gp q w; omega
            repeat walk_at "st"
            refine k_ixL (.inl (.inl rb)) hra ?_
            repeat walk_at "st"
            refine k_ixL (.inl (.inl lb)) hqa ?_
            repeat walk_at "st"
            intro tr Hd htr ed hdr
            repeat walk_at "st"
            refine k_ixL (.inl (.inl (ed.get lb))) hpa ?_
            have hcell : CellL ((0 : Int) :: ps) ⟨ps[i], m, q, s⟩ ∧ (⟨ps[i], m, q, s⟩ : Cell).a ∈ ps.take size.toNat := ⟨⟨⟨gp _ (List.getElem_mem hip), gm, hq, gs, gmo⟩, hqm⟩, hpm⟩
            obtain ⟨kvs, hkv, hkl⟩ : ∃ kvs, Hd cd = some (.dK kvs) ∧ kvs.length ≤ 60 := by
              obtain ⟨cs, ⟨kvs, z1, z2, z3⟩, hi2⟩ := B0.ex ed
              refine ⟨kvs, z1, ?_⟩
              have := part_len ⟨kvs, z1, z2, z3⟩ hi2
              rw [List.length_take, ← rows_len z2] at this
              omega
            refine k_dputE (k := kC ⟨ps[i], m, q, s⟩) rfl hkv (by rw [sizeLine_eq]; omega) fun He bH hH => ?_
            exact ⟨_, _, _, _, _, _, _, rfl, (bb.trans (ExB.of ed)).trans bH, (B0.ex ed).put hkv bH hH hdr hcell⟩
          · subst es
            obtain ⟨xs, hxs, hxi⟩ := B0
            have hxl := part_len hxs hxi
            rw [List.length_take] at hxl
            have nb : nd ≠ cd := ncn
            repeat walk_at "st"
            intro tt Hf htt ef hf
            have hb0 : ExB p H Hf := (ExB.skip bHa hcd0 bb).trans (ExB.of ef)
            have Pb : Pool Hb p := Pa.exB (Ne.symm n_cd) bb
            have hps : ∀ c ∈ xs, c.a ∈ ps := fun c hc => List.mem_of_mem_take (hxi c hc).2
            exact k Hf tt nd cd la ns xs ((0 : Int) :: ps) hb0 (Pb.ex ef) hf ⟨(DictN.exB nb bb hN).ex ef, fun n hn => (gns n hn).1, nsl, hxs.ex ef, fun c hc => (hxi c hc).1.1, by omega, ef.get (bb _ _ n_la laa), ⟨ps, rfl, gp, by omega, by omega, hps⟩, np, fun n hn => (gns n hn).2, fun c hc => ⟨List.mem_cons_of_mem _ (hps c hc), (hxi c hc).1.2⟩, ncn, hnd0, hcd0, ExB.back (b2'.trans b3) nla hla⟩
end


/-! ### alike -/
def enc (o : Option (Int × Int)) : List Int := match o with
  | none => [-1, 0]
  | some (g, s) => [g, s]
theorem enc_len (o : Option (Int × Int)) : (enc o).length = 2 := by cases o <;> rfl
theorem encs_len (os : List (Option (Int × Int))) : (os.flatMap enc).length = 2 * os.length := by
  induction os with
  | nil => rfl
  | cons o os ih => rw [List.flatMap_cons, List.length_append, ih, enc_len, List.length_cons]; omega
theorem key_enc (at_ : List Int) (os : List (Option (Int × Int))) : keyOf at_ os = ((at_.length : Nat) : Int) :: (at_ ++ os.flatMap enc) := by
  unfold keyOf
  rw [List.append_assoc]
  refine congrArg (fun l => ((at_.length : Nat) : Int) :: (at_ ++ l)) ?_
  rw [List.flatMap_def, List.flatMap_def]
  congr 1
theorem enc_inj : ∀ {os os' : List (Option (Int × Int))}, (∀ g s, some (g, s) ∈ os → 0 ≤ g) → (∀ g s, some (g, s) ∈ os' → 0 ≤ g) → os.flatMap enc = os'.flatMap enc → os = os'
  | [], [], _, _, _ => rfl
  | [], o :: os', _, _, h => by
    have := congrArg List.length h
    rw [encs_len, encs_len, List.length_cons, List.length_nil] at this
    omega
  | o :: os, [], _, _, h => by
    have := congrArg List.length h
    rw [encs_len, encs_len, List.length_cons, List.length_nil] at this
    omega
  | o :: os, o' :: os', h1, h2, h => by
    rw [List.flatMap_cons, List.flatMap_cons] at h
    obtain ⟨e1, e2⟩ := List.append_inj h (by rw [enc_len, enc_len])
    have ih := enc_inj (fun g s hm => h1 g s (List.mem_cons_of_mem _ hm)) (fun g s hm => h2 g s (List.mem_cons_of_mem _ hm)) e2
    have eo : o = o' := by
      cases o with
      | none =>
        cases o' with
        | none => rfl
        | some q =>
          obtain ⟨g, s⟩ := q
          have hg := h2 g s List.mem_cons_self
          have : (-1 : Int) = g := (List.cons.inj e1).1
          omega
      | some p =>
        obtain ⟨g, s⟩ := p
        cases o' with
        | none =>
          have hg := h1 g s List.mem_cons_self
          have : g = (-1 : Int) := (List.cons.inj e1).1
          omega
        | some q =>
          obtain ⟨g', s'⟩ := q
          have a1 : g = g' := (List.cons.inj e1).1
          have a2 : s = s' := (List.cons.inj (List.cons.inj e1).2).1
          rw [a1, a2]
    rw [eo, ih]
theorem key_inj {at_ at' : List Int} {os os' : List (Option (Int × Int))} (h1 : ∀ g s, some (g, s) ∈ os → 0 ≤ g) (h2 : ∀ g s, some (g, s) ∈ os' → 0 ≤ g) (h : keyOf at_ os = keyOf at' os') : at_ = at' ∧ os = os' := by
  rw [key_enc, key_enc] at h
  have e0 := (List.cons.inj h).1
  have e1 := (List.cons.inj h).2
  have hl : at_.length = at'.length := by omega
  obtain ⟨e2, e3⟩ := List.append_inj e1 hl
  exact ⟨e2, enc_inj h1 h2 e3⟩
/-- what the program compares -/
def formB (ns ms : List (Str × Int)) (b b' : Bf) : Bool := (decide (ns.map (·.1) = ms.map (·.1)) && decide (keyOf (atOf ns b.os) b.outs = keyOf (atOf ms b'.os) b'.outs)) && decide (b.words = b'.words)
/-- a kept heap -/
structure Kept (ns : List (Str × Int)) (cs : List Cell) : Prop where
  co : CsOk cs
  no : NmOk ns
  h0 : ∀ c ∈ cs, c.a ≠ 0
  m1 : ∀ c ∈ cs, c.m.length = 1
  hr : ∀ c ∈ cs, Reach ns cs c.a
  ok : ∀ c ∈ cs, PyData.strOk c.m = true
theorem marks_ok : ∀ {l : List Cell}, (∀ c ∈ l, PyData.strOk c.m = true) → PyData.strOk (marksOf l) = true
  | [], _ => by
    unfold marksOf
    rw [List.map_nil, TL.join_eq]
    decide +kernel
  | c :: l, h => by
    have h1 := h c List.mem_cons_self
    have h2 := marks_ok (l := l) fun d hd => h d (List.mem_cons_of_mem _ hd)
    rw [marks_cons]
    unfold PyData.strOk at h1 h2 ⊢
    have e : (c.m ++ marksOf l).cps = c.m.cps ++ (marksOf l).cps := rfl
    rw [e, Array.all_append, h1, h2]
    rfl
theorem words_ok {ns : List (Str × Int)} {cs : List Cell} (K : Kept ns cs) (k : Nat) : ∀ z ∈ (stB ns cs k).words, PyData.strOk z = true := by
  intro z hz
  rw [words_at K.co K.h0 k] at hz
  obtain ⟨i, _, hi⟩ := List.mem_filterMap.mp hz
  unfold wordF at hi
  obtain ⟨c, hc, rfl⟩ := Option.map_eq_some_iff.mp hi
  obtain ⟨q, hq, hc⟩ := Option.bind_eq_some_iff.mp hc
  have o := BOk.at (ns := ns) K.co K.h0 k
  obtain ⟨k1, k2⟩ := cell_key hc
  have hp : plainB ns cs c.a = false := by rw [k2]; exact spot_plain K.co K.h0 (o.sp q (List.mem_of_getElem? hq))
  obtain ⟨_, _, _, sg, _⟩ := goal_ok k1 hp
  exact marks_ok fun d hd => K.ok d (sg.mem k1 d (List.mem_reverse.mpr hd))
theorem formB_iff {ns ms : List (Str × Int)} {cs ds : List Cell} (K1 : Kept ns cs) (K2 : Kept ms ds) {k j : Nat} (dk : Done ns cs k) (dj : Done ms ds j) : formB ns ms (stB ns cs k) (stB ms ds j) = true ↔ Alike ns ms cs ds := by
  rw [← form_iff K1.co K2.co K1.no K1.h0 K2.h0 K1.m1 K2.m1 K1.hr K2.hr dk dj]
  unfold formB
  rw [Bool.and_eq_true, Bool.and_eq_true, decide_eq_true_eq, decide_eq_true_eq, decide_eq_true_eq]
  constructor
  · rintro ⟨⟨h1, h2⟩, h3⟩
    obtain ⟨e1, e2⟩ := key_inj (fun g s h => (outs_bound K1.co K1.h0 dk.n dk.s h).1) (fun g s h => (outs_bound K2.co K2.h0 dj.n dj.s h).1) h2
    exact ⟨h1, e1, e2, h3⟩
  · intro F
    exact ⟨⟨F.names, by rw [F.at_, F.outs]⟩, F.words⟩
theorem reach_all {ns : List (Str × Int)} {cs : List Cell} {met : List Int} (co : CsOk cs) (g : Good ns cs met) (hl : lostL cs met = []) : ∀ c ∈ cs, Reach ns cs c.a := by
  intro c hc
  have hm : c.a ∈ met := by
    by_cases h : c.a ∈ met
    · exact h
    · have : c.a ∈ lostL cs met := List.mem_map_of_mem (List.mem_filter.mpr ⟨hc, decide_eq_true h⟩)
      rw [hl] at this
      cases this
  exact g.1.sound _ hm
/-- the pair that written gives -/
def WPair (K : PySem.W.Frag) (H0 H : Hp) (t : Addr) (ns : List (Str × Int)) (cs : List Cell) : Prop := ∃ f u k, H t = some (.tup [.ref f, .ref u]) ∧ H0 f = none ∧ Done ns cs k ∧ FigAt K H f (ns.map (·.1)) (atOf ns (stB ns cs k).os) (stB ns cs k).outs ∧ SqT K H u ((stB ns cs k).words.map V.str)
theorem WPair.ex {K : PySem.W.Frag} {H0 H H' : Hp} (e : Ex H H') {t : Addr} {ns : List (Str × Int)} {cs : List Cell} (h : WPair K H0 H t ns cs) : WPair K H0 H' t ns cs := by
  obtain ⟨f, u, k, h1, h2, h3, h4, h5⟩ := h
  exact ⟨f, u, k, e.get h1, h2, h3, h4.ex e, e.sqT h5⟩
section
variable {P : Program} {w : World} {K : PySem.W.Frag} {mg : Str → Option Value} {base : Heap}
/-- two written forms compared -/
theorem k_pairF {ng : Bool} (Y : Ty P w K mg) {H0 H1 H : Hp} {a b : Addr} {ns ms : List (Str × Int)} {cs ds : List Cell} {Q : VK} (K1 : Kept ns cs) (K2 : Kept ms ds) (ha : WPair K H0 H1 a ns cs) (e1 : Ex H1 H) (hb : WPair K H1 H b ms ds) (q : ∀ H' r, Ex H H' → (r = true ↔ Alike ns ms cs ds) → Q (.bl (if ng = true then !r else r)) H') : rPair K (fC K) (spFigE K) E0 ng (.ref a) (.ref b) H Q := by
  obtain ⟨f, u, k, h1, h2, h3, h4, h5⟩ := ha
  obtain ⟨f', u', k', h1', h2', h3', h4', h5'⟩ := hb
  have h6 := words_ok K1 k
  have h6' := words_ok K2 k'
  obtain ⟨dx, tn, ta, to, th, tk, A⟩ := id h4
  obtain ⟨dx', tn', ta', to', th', tk', B⟩ := id h4'
  have hne : f ≠ f' := ne_of_none A.ins h2'
  refine ⟨a, b, f, f', .ref u, .ref u', dx, _, _, .tuple ((stB ns cs k).words.map PyData.str), .tuple ((stB ms ds k').words.map PyData.str), rfl, rfl, .inl (.inl (e1.get h1)), .inl (.inl h1'), hne, e1.get A.ins, Y.tyxF B.ins, by simp [PySem.W.notFirst], .tup (e1.sqT h5) (dp_strsA _), .tup h5' (dp_strsA _), shp_strsT _ h6, shp_strsT _ h6', ?_⟩
  refine ⟨f, f', _, _, _, _, _, _, rfl, h4.ex e1, h4', fun H' e => ⟨_, rfl, e, ?_⟩⟩
  have hr := q H' (formB ns ms (stB ns cs k) (stB ms ds k')) e (formB_iff K1 K2 h3 h3')
  rw [PyData.eqv, eqv_strsA]
  exact hr
theorem mark_one {c : Cell} (h : CellIn c) : c.m.length = 1 := by
  have hm := h.2.1
  rw [inV_str] at hm
  have : ∀ z ∈ marks, z.length = 1 := by decide +kernel
  exact this c.m (of_decide_eq_true hm)
theorem kept_of {H : Hp} {p : Addr} {ns : List (Str × Int)} {cs : List Cell} {met : List Int} (hA : HeapAt K H p ns cs) (hi : ∀ c ∈ cs, CellIn c) (g : Good ns cs met) (hl : lostL cs met = []) : Kept ns cs := by
  obtain ⟨_, _, _, _, _, A⟩ := hA
  exact ⟨A.co, A.no, fun c hc => by have := (hi c hc).1.1; omega, fun c hc => mark_one (hi c hc), reach_all A.co g hl, fun c hc => (hi c hc).2.2.2.2⟩
theorem hcs_of {cs : List Cell} (hi : ∀ c ∈ cs, CellIn c) : ∀ c ∈ cs, c.a ≠ 0 ∧ (1 ≤ c.s ∧ c.s ≤ 12) ∧ c.m.length ≤ 10 := fun c hc =>
  ⟨by have := (hi c hc).1.1; omega, (hi c hc).2.2.2.1, by have := mark_one (hi c hc); omega⟩
def spAlk (K : PySem.W.Frag) : Sp := fun vs H Q E => ∃ (p h : Addr) (ns ms : List (Str × Int)) (cs ds : List Cell), vs = [.ref p, .ref h] ∧ HeapAt K H p ns cs ∧ HeapAt K H h ms ds ∧ (∀ c ∈ cs, CellIn c) ∧ (∀ c ∈ ds, CellIn c) ∧
  (∀ met mex, Good ns cs met → lostL cs met = [] → Good ms ds mex → lostL ds mex = [] → ∀ H' r, Ex H H' → (r = true ↔ Alike ns ms cs ds) → Q (.bl r) H') ∧
  (∀ met x r, Good ns cs met → lostL cs met = x :: r → ∀ H' d, Ex H H' → H' d = some (xdA x) → E (eLost K) (some d) H') ∧
  (∀ met mex x r, Good ns cs met → lostL cs met = [] → Good ms ds mex → lostL ds mex = x :: r → ∀ H' d, Ex H H' → H' d = some (xdA x) → E (eLost K) (some d) H')
theorem c_alike (Y : Ty P w K mg) : Cal P w K mg base (L2N.CX P w) 9 "alike" ["heap", "other"] (spAlk K) := by
  have T := Y.T
  refine cal_mkX T.D_alike T.m_alike sc_alike (fun _ _ _ _ _ _ us hl => match us, hl with | [_, _], _ => rfl) (fun vs H Q E h => ?_) (fun f cdv A outer s H vs Q E hr h => ?_)
  · obtain ⟨p, h, ns, ms, cs, ds, rfl, _⟩ := h
    rfl
  · obtain ⟨p, h, ns, ms, cs, ds, rfl, hA, hB, hi, hj, k1, k2, k3⟩ := h
    refine ⟨_, ((pss_one (ps_ret (pe_cmpR (op_pairEq (hu65 hr) (me_Figure_eq Y) hr (by decide) pass0) (by exact pe_cal (c_written Y) hr (by decide) rfl (L2N.passes_call (L2N.takes_of rfl rfl rfl rfl) (fun _ _ _ _ h => h)) (pa_cons (pv 0) pa_nil)) (by exact pe_cal (c_written Y) hr (by decide) rfl (L2N.passes_call (L2N.takes_of rfl rfl rfl rfl) (fun _ _ _ _ h => h)) (pa_cons (pv 1) pa_nil)) (nomark _))))), ?_⟩
    dsimp only [cxOf]
    repeat walk_at "st"
    refine ⟨p, ns, cs, rfl, hA, hcs_of hi, fun met gm hlo H1 t f u k e1 h1 hf0 dk hF hW => ?_, fun met x r gm hlo H1 d e1 hd => k2 met x r gm hlo H1 d e1 hd⟩
    repeat walk_at "st"
    refine ⟨h, ms, ds, rfl, hB.ex e1, hcs_of hj, fun mex gx hlx H2 t' f' u' k' e2 h2 hf1 dk' hF' hW' => ?_, fun mex x r gx hlx H2 d e2 hd => k3 met mex x r gm hlo gx hlx H2 d (e1.trans e2) hd⟩
    repeat walk_at "st"
    refine k_pairF (ng := false) Y (H0 := H) (H1 := H1) (kept_of hA hi gm hlo) (kept_of hB hj gx hlx) ⟨f, u, k, h1, hf0, dk, hF, hW⟩ e2 ⟨f', u', k', h2, hf1, dk', hF', hW'⟩ fun H3 r e3 hr => ?_
    repeat walk_at "st"
    exact k1 met mex gm hlo gx hlx H3 r (e1.trans (e2.trans e3)) hr
end


/-! ### _law_kept -/
theorem reach_sub {ns ms : List (Str × Int)} {cs ds : List Cell} (hn : ∀ n, n ∈ ns ↔ n ∈ ms) (h : ∀ a c, cellOf cs a = some c → Reach ns cs a → cellOf ds a = some c) {a : Int} (r : Reach ns cs a) : Reach ms ds a := by
  induction r with
  | base n hm => exact .base n ((hn n).mp hm)
  | step a c r hc ih => exact .step a c ih (h a c hc r)
/-- the cells that are reached -/
structure KeptC (ms : List (Str × Int)) (xs ks : List Cell) : Prop where
  sub : ∀ c ∈ ks, c ∈ xs
  all : ∀ c ∈ xs, Reach ms xs c.a → c ∈ ks
  rch : ∀ c ∈ ks, Reach ms ks c.a
theorem cell_in {xs : List Cell} (nd : (xs.map kC).Nodup) {c : Cell} (h : c ∈ xs) : cellOf xs c.a = some c := rowAt_mem nd h
theorem kept_c {ms : List (Str × Int)} {xs ks : List Cell} {met : List Int} (nd : (xs.map kC).Nodup) (g : Good ms xs met) (e : ks = xs.filter fun c => decide (c.a ∈ met)) : KeptC ms xs ks := by
  have hnd : (ks.map kC).Nodup := by rw [e]; exact nd.sublist (List.Sublist.map _ List.filter_sublist)
  have sub : ∀ c ∈ ks, c ∈ xs := fun c hc => by rw [e] at hc; exact (List.mem_filter.mp hc).1
  have all : ∀ c ∈ xs, Reach ms xs c.a → c ∈ ks := fun c hc r => by
    rw [e]
    exact List.mem_filter.mpr ⟨hc, decide_eq_true ((g.iff (cell_in nd hc)).mpr r)⟩
  refine ⟨sub, all, fun c hc => ?_⟩
  have hx := sub c hc
  have hm : c.a ∈ met := by rw [e] at hc; exact of_decide_eq_true (List.mem_filter.mp hc).2
  refine reach_sub (cs := xs) (fun _ => Iff.rfl) (fun a d hd r => ?_) ((g.iff (cell_in nd hx)).mp hm)
  obtain ⟨q1, q2⟩ := cell_key hd
  have := all d q1 (by rw [q2]; exact r)
  have h2 := cell_in hnd this
  rw [q2] at h2
  exact h2
def spKept : Sp := fun vs H Q _ => ∃ (a b : Addr) (ms : List (Str × Int)) (xs : List Cell), vs = [.ref a, .ref b] ∧ DictN H a ms ∧ ms.length ≤ 20 ∧ DictC H b xs ∧ xs.length ≤ 60 ∧ a ≠ b ∧
  ∀ H' D ks, Ex H H' → H D = none → DictC H' D ks → KeptC ms xs ks → Q (.ref D) H'
section
variable {P : Program} {w : World} {K : PySem.W.Frag} {mg : Str → Option Value} {base : Heap}
theorem c_l_kept (T : Tx w K mg) : Cal P w K mg base CX0 3 "_law_kept" ["names", "cells"] spKept := by
  refine cal_mk T.D_l_kept T.m__law_kept sc_l_kept (fun _ _ _ _ _ _ us hl => match us, hl with | [_, _], _ => rfl) (fun vs H Q E h => ?_) (fun f cdv A outer s H vs Q E hr h => ?_)
  · obtain ⟨a, b, ms, xs, rfl, _⟩ := h
    rfl
  · obtain ⟨na, ca, ms, xs, rfl, hN, hml, hC, hxl, hab, k⟩ := h
    have hu := hu_of hr
    refine ⟨_, ((pss_cons (ps_par (i := 2) (j := 3) rfl sc_l_kept.nd rfl rfl (by decide) rfl rfl (pa_cons (by exact pe_cal (c_l_lost T) hr (by decide) rfl pass0 (pa_cons (pv 0) (pa_cons (pv 1) pa_nil))) (pa_cons pe_dnewK pa_nil)) rfl)
  (pss_cons (ps_lock (ps_for PassesOwn.never rfl (pi_keys (pv 1)) (pg_name (i := 4) sc_l_kept.nd rfl (Or.inl rfl)) (pss_one (ps_if (pt_cmpR op_notIn_seq (pv 4) (pv 2) rfl) (pss_one (ps_dput hu (pv 3) (pv 4) (pe_dget hu (pv 1) (pv 4) (fun _ _ => rfl)) rfl)) pss_nil))))
  (pss_one (ps_ret (pv 3)))))), ?_⟩
    dsimp only [cxOf, Cx.nox]
    repeat walk_at "st"
    refine ⟨na, ca, ms, xs, rfl, hN, hml, hC, hxl, hab, fun H5 l mex cs e5 hl0 hl co hcc good => ?_⟩
    repeat walk_at "st"
    refine k_dnew fun kd H6 hkd e6 h6 => ?_
    repeat walk_at "st"
    have e36 := e5.trans e6
    obtain ⟨kvs, hk, hrw, nd⟩ := hC
    have hkl := rows_len hrw
    have hk6 := e36.get hk
    have hl6 := e6.get hl
    have hkd3 : H kd = none := e5.none hkd
    have nkc : kd ≠ ca := fun z => by rw [z, hk] at hkd3; cases hkd3
    refine ⟨ca, .dK kvs, hk6, trivial, fun od => ?_⟩
    repeat walk_at "st"
    refine ⟨_, rfl, ca, od, rfl, .inl ⟨kvs, upd_same, ?_⟩⟩
    have hbu : upd H6 ca (.frz od (.dK kvs)) ca = some (.frz od (.dK kvs)) := upd_same
    have off : ∀ {x : Addr} {o : HO}, H6 x = some o → x ≠ ca → upd H6 ca (.frz od (.dK kvs)) x = some o := fun {x o} h n => by rw [upd_ne n]; exact h
    have hla := off hl6 (ne_of hl6 hk6 (fun z => nomatch z))
    have hda := off h6 nkc
    have rowA : ∀ {t : Addr} {c : Cell}, H t = some (.tup (rowT c)) → upd H6 ca (.frz od (.dK kvs)) t = some (.tup (rowT c)) ∧ t ≠ kd := fun {t c} h => ⟨off (e36.get h) (ne_of h hk (fun z => nomatch z)), fun z => by rw [z, hkd3] at h; cases h⟩
    have ul : ∀ H', ExB kd (upd H6 ca (.frz od (.dK kvs))) H' → ExB kd H6 (upd H' ca (.dK kvs)) := fun H' q => unlock_exB hk6 q
    have nlk : l ≠ kd := fun z => by rw [z, hkd] at hl; cases hl
    generalize upd H6 ca (.frz od (.dK kvs)) = Ha at hbu hla hda rowA ul ⊢
    refine for_it (walk_keys (kvs := kvs)) (fun i σ' H' => ∃ v4 kvk, σ' = [some (.ref na), some (.ref ca), some (.ref l), some (.ref kd), v4] ∧ ExB kd Ha H' ∧ H' kd = some (.dK kvk) ∧ RowsOf H' kvk ((xs.take i).filter fun c => decide (c.a ∉ lostL cs mex))) ⟨none, [], rfl, ExB.of (Ex.refl _), hda, .nil⟩ (fun i σ' H' _ ⟨_, _, _, bb, _⟩ => bb _ _ (Ne.symm nkc) hbu) (fun i x σ' Hx H7 hi ⟨v4, kvk, es, b7, h7, R7⟩ y => ?_) (fun σ' H7 ⟨v4, kvk, es, b7, h7, R7⟩ => ?_)
    · subst es
      obtain ⟨rfl, kk, vv, y, rfl⟩ := y
      obtain ⟨c, hc, hkk, _⟩ := Paired.get' hrw y
      dsimp only at hkk
      subst hkk
      have hat := hrw.val (kC c)
      rw [rowAt_mem nd (List.mem_of_getElem? hc)] at hat
      obtain ⟨vx, hv, t2, rfl, ht2⟩ := hat
      have hlk := b7 _ _ (Ne.symm nkc) hbu
      obtain ⟨rt1, rt2⟩ := rowA ht2
      have ht7 := b7 _ _ rt2 rt1
      have hl7 : SqL K H7 l ((lostL cs mex).map V.int) ∨ SqT K H7 l ((lostL cs mex).map V.int) := .inl (.inl (.inl (b7 _ _ nlk hla)))
      have htk : xs.take (i + 1) = xs.take i ++ [c] := by rw [List.take_add_one, hc]; rfl
      have hkkl : kvk.length ≤ 60 := by
        have h1 := rows_len R7
        have h2 := List.length_filter_le (fun c : Cell => decide (c.a ∉ lostL cs mex)) (xs.take i)
        rw [List.length_take] at h2
        omega
      repeat walk_at "st"
      refine k_in hl7 rfl (by simp [flatV]) ?_
      rw [if_pos rfl, show kV (kC c) = V.int c.a from rfl, inV_int]
      by_cases hin : c.a ∈ lostL cs mex
      · rw [decide_eq_true hin]
        repeat walk_at "st"
        refine ⟨_, kvk, rfl, b7, h7, ?_⟩
        rw [htk, List.filter_append, List.filter_cons_of_neg (by simp [hin])]
        simpa using R7
      · rw [decide_eq_false hin]
        repeat walk_at "st"
        refine k_dgetE (k := kC c) rfl (.inr ⟨od, hlk⟩) hv ?_
        repeat walk_at "st"
        refine k_dputE (k := kC c) rfl h7 (by rw [sizeLine_eq]; omega) fun H8 b8 h8 => ?_
        have ht8 := b8 _ _ (ne_of ht7 h7 (fun z => nomatch z)) ht7
        have R8 := (R7.mono fun c v h => TRow.exB h7 b8 h).put (c := c) (v := .ref t2) ⟨t2, rfl, ht8⟩
        have nin : rowAt kC ((xs.take i).filter fun c => decide (c.a ∉ lostL cs mex)) (kC c) = none := rowAt_none' fun d hd he => by
          have h1 := (List.mem_filter.mp hd).1
          have hda : d.a = c.a := Sum.inl.inj he
          obtain ⟨j, hj⟩ := List.mem_iff_getElem?.mp h1
          rw [List.getElem?_take] at hj
          split at hj
          · rename_i hlt
            have a1 := cell_in nd (List.mem_of_getElem? hj)
            have a2 := cell_in nd (List.mem_of_getElem? hc)
            rw [hda, a2] at a1
            cases a1
            have nx : xs.Nodup := List.Pairwise.of_map kC (fun a b h e => h (by rw [e])) nd
            obtain ⟨l1, c1⟩ := List.getElem?_eq_some_iff.mp hj
            obtain ⟨l2, c2⟩ := List.getElem?_eq_some_iff.mp hc
            have d1 := nx.idxOf_getElem j l1
            have d2 := nx.idxOf_getElem i l2
            rw [c1] at d1
            rw [c2] at d2
            omega
          · cases hj
        rw [putR_new nin] at R8
        refine ⟨_, _, rfl, b7.trans b8, h8, ?_⟩
        rw [htk, List.filter_append, List.filter_cons_of_pos (by simp [hin])]
        exact R8
    · subst es
      rw [hkl, List.take_length] at R7
      have hlk := b7 _ _ (Ne.symm nkc) hbu
      refine ⟨hlk, ?_⟩
      have b8 := ul _ b7
      have h8 : upd H7 ca (.dK kvs) kd = some (.dK kvk) := by rw [upd_ne nkc]; exact h7
      have R8 : RowsOf (upd H7 ca (.dK kvs)) kvk (xs.filter fun c => decide (c.a ∉ lostL cs mex)) := R7.mono fun c v ⟨t, e, ht⟩ => ⟨t, e, by rw [upd_ne (ne_of ht hlk (fun z => nomatch z))]; exact ht⟩
      generalize upd H7 ca (.dK kvs) = H8 at b8 h8 R8
      have e8 : Ex H H8 := ExB.old e36 hkd3 b8
      dsimp only
      repeat walk_at "st"
      refine k H8 kd _ e8 hkd3 ⟨kvk, h8, R8, nd.sublist (List.Sublist.map _ List.filter_sublist)⟩ (kept_c nd good ?_)
      refine List.filter_congr fun c hc => decide_eq_decide.mpr ⟨fun h => ?_, fun h hl => ?_⟩
      · by_cases hm : c.a ∈ mex
        · exact hm
        · refine absurd ?_ h
          unfold lostL
          exact List.mem_map_of_mem (List.mem_filter.mpr ⟨(hcc c).mpr hc, decide_eq_true hm⟩)
      · unfold lostL at hl
        obtain ⟨d, hd, ea⟩ := List.mem_map.mp hl
        have := of_decide_eq_true (List.mem_filter.mp hd).2
        rw [ea] at this
        exact this h
end


/-! ### _law_moved -/
/-- a dict that exchanges addresses -/
def MapD (kvt : List (L2.Key × V)) (φ : Int → Int) (S : List Int) : Prop := (∀ a ∈ S, valV kvt (Sum.inl a) = some (V.int (φ a))) ∧ ∀ a ∈ S, ∀ b ∈ S, φ a = φ b → a = b
def moveN (φ : Int → Int) (ns : List (Str × Int)) : List (Str × Int) := ns.map fun n => (n.1, φ n.2)
def moveC (φ : Int → Int) (c : Cell) : Cell := ⟨φ c.a, c.m, φ c.l, c.s⟩
theorem moveN_keys (φ : Int → Int) (ns : List (Str × Int)) : (moveN φ ns).map (·.1) = ns.map (·.1) := by
  unfold moveN
  rw [List.map_map]
  rfl
def spMoved : Sp := fun vs H Q _ => ∃ (a b t : Addr) (ms : List (Str × Int)) (xs : List Cell) (kvt : List (L2.Key × V)) (φ : Int → Int) (S : List Int), vs = [.ref a, .ref b, .ref t] ∧ DictN H a ms ∧ ms.length ≤ 20 ∧ DictC H b xs ∧ xs.length ≤ 60 ∧ a ≠ b ∧ a ≠ t ∧ b ≠ t ∧ H t = some (.dK kvt) ∧ MapD kvt φ S ∧
  (∀ n ∈ ms, n.2 ∈ S) ∧ (∀ c ∈ xs, c.a ∈ S ∧ c.l ∈ S) ∧ ∀ H' p m r, Ex H H' → H' p = some (.tup [.ref m, .ref r]) → H m = none → H r = none → m ≠ r → DictN H' m (moveN φ ms) → DictC H' r (xs.map (moveC φ)) → Q (.ref p) H'
section
variable {P : Program} {w : World} {K : PySem.W.Frag} {mg : Str → Option Value} {base : Heap}
theorem c_l_moved (T : Tx w K mg) : Cal P w K mg base CX0 1 "_law_moved" ["names", "cells", "there"] spMoved := by
  refine cal_mk T.D_l_moved T.m__law_moved sc_l_moved (fun _ _ _ _ _ _ us hl => match us, hl with | [_, _, _], _ => rfl) (fun vs H Q E h => ?_) (fun f cdv A outer s H vs Q E hr h => ?_)
  · obtain ⟨a, b, t, ms, xs, kvt, φ, S, rfl, _⟩ := h
    rfl
  · obtain ⟨a, b, td, ms, xs, kvt, φ, S, rfl, hN, hml, hC, hxl, hab, hat, hbt, ht, ⟨hφ, hinj⟩, hnS, hcS, k⟩ := h
    have hu := hu_of hr
    obtain ⟨kvs, hk, hrw, nd⟩ := hC
    have hkl := rows_len hrw
    refine ⟨_, ((pss_cons (ps_par (i := 3) (j := 4) rfl sc_l_moved.nd rfl rfl (by decide) rfl rfl (pa_cons pe_dnewK (pa_cons pe_dnewK pa_nil)) rfl)
  (pss_cons (ps_lock (ps_for PassesOwn.never rfl (pi_keys (pv 0)) (pg_name (i := 5) sc_l_moved.nd rfl (Or.inl rfl)) (pss_one (ps_dput hu (pv 3) (pv 5) (pe_dget hu (pv 2) (pe_dget hu (pv 0) (pv 5) (fun _ _ => rfl)) (fun _ _ => rfl)) rfl))))
  (pss_cons (ps_lock (ps_for PassesOwn.never rfl (pi_keys (pv 1)) (pg_name (i := 6) sc_l_moved.nd rfl (Or.inl rfl)) (pss_cons (ps_asg (pe_dget hu (pv 1) (pv 6) (fun _ _ => rfl)) (pg_tup (n := 3) rfl (pgs_cons (pg_name (i := 7) sc_l_moved.nd rfl (Or.inl rfl)) (pgs_cons (pg_name (i := 8) sc_l_moved.nd rfl (Or.inl rfl)) (pgs_cons (pg_name (i := 9) sc_l_moved.nd rfl (Or.inl rfl)) pgs_nil)))))
  (pss_one (ps_dput hu (pv 4) (pe_dget hu (pv 2) (pv 6) (fun _ _ => rfl)) (pe_tup (pa_cons (pv 7) (pa_cons (pe_dget hu (pv 2) (pv 8) (fun _ _ => rfl)) (pa_cons (pv 9) pa_nil)))) rfl)))))
  (pss_one (ps_ret (pe_tup (pa_cons (pv 3) (pa_cons (pv 4) pa_nil))))))))), ?_⟩
    dsimp only [cxOf, Cx.nox]
    repeat walk_at "st"
    refine k_dnew fun M H1 hM e1 h1 => ?_
    repeat walk_at "st"
    refine k_dnew fun D H2 hD e2 h2 => ?_
    repeat walk_at "st"
    have nMD : M ≠ D := ne_of_none h1 hD
    have h1 := e2.get h1
    have e02 := e1.trans e2
    have hD0 : H D = none := e1.none hD
    have nMa : M ≠ a := fun z => by rw [z, hN.1] at hM; cases hM
    have nMb : M ≠ b := fun z => by rw [z, hk] at hM; cases hM
    have nMt : M ≠ td := fun z => by rw [z, ht] at hM; cases hM
    have nDa : D ≠ a := fun z => by rw [z, hN.1] at hD0; cases hD0
    have nDb : D ≠ b := fun z => by rw [z, hk] at hD0; cases hD0
    have nDt : D ≠ td := fun z => by rw [z, ht] at hD0; cases hD0
    refine ⟨a, .dK (kvN ms), e02.get hN.1, trivial, fun od => ?_⟩
    repeat walk_at "st"
    refine ⟨_, rfl, a, od, rfl, .inl ⟨kvN ms, upd_same, ?_⟩⟩
    have hbu : upd H2 a (.frz od (.dK (kvN ms))) a = some (.frz od (.dK (kvN ms))) := upd_same
    have hMa : upd H2 a (.frz od (.dK (kvN ms))) M = some (.dK []) := by rw [upd_ne nMa]; exact h1
    have hta : upd H2 a (.frz od (.dK (kvN ms))) td = some (.dK kvt) := by rw [upd_ne (Ne.symm hat)]; exact e02.get ht
    have klen : (kvN ms).length = ms.length := List.length_map _
    have ul : ∀ H', ExB M (upd H2 a (.frz od (.dK (kvN ms)))) H' → ExB M H2 (upd H' a (.dK (kvN ms))) := fun H' q => unlock_exB (e02.get hN.1) q
    generalize upd H2 a (.frz od (.dK (kvN ms))) = Ha at hbu hMa hta ul ⊢
    refine for_it (walk_keys (kvs := kvN ms)) (fun i σ' H' => ∃ v5, σ' = [some (.ref a), some (.ref b), some (.ref td), some (.ref M), some (.ref D), v5, none, none, none, none] ∧ ExB M Ha H' ∧ H' M = some (.dK (kvN (moveN φ (ms.take i))))) ⟨none, rfl, ExB.of (Ex.refl _), hMa⟩ (fun i σ' H' _ ⟨_, _, bb, _⟩ => bb _ _ (Ne.symm nMa) hbu)
      (fun i x σ' Hx H3 hi ⟨v5, es, b3, h3⟩ y => ?_) (fun σ' H3 ⟨v5, es, b3, h3⟩ => ?_)
    · subst es
      obtain ⟨rfl, kk, vv, y, rfl⟩ := y
      obtain ⟨n, hn⟩ : ∃ n, ms[i]? = some n := ⟨ms[i]'(by omega), List.getElem?_eq_getElem (by omega)⟩
      unfold kvN at y
      rw [List.getElem?_map, hn] at y
      cases y
      have hv := kvN_some hN.2 (List.mem_of_getElem? hn)
      have hl := b3 _ _ (Ne.symm nMa) hbu
      have ht3 := b3 _ _ (Ne.symm nMt) hta
      repeat walk_at "st"
      refine k_dgetE (k := Sum.inr n.1) rfl (.inr ⟨od, hl⟩) hv ?_
      refine k_dgetE (k := Sum.inl n.2) rfl (.inl ht3) (hφ _ (hnS n (List.mem_of_getElem? hn))) ?_
      repeat walk_at "st"
      refine k_dputE (k := Sum.inr n.1) rfl h3 (by unfold kvN moveN; rw [List.length_map, List.length_map, List.length_take, sizeLine_eq]; omega) fun H4 b4 h4 => ?_
      have hzn : n.1 ∉ (moveN φ (ms.take i)).map (·.1) := by
        rw [moveN_keys, List.map_take]
        exact take_nodup hN.2 (by rw [List.getElem?_map, hn]; rfl)
      rw [kvN_put (n := (n.1, φ n.2)) hzn] at h4
      refine ⟨_, rfl, b3.trans b4, ?_⟩
      rw [h4, List.take_add_one, hn]
      unfold moveN
      rw [List.map_append]
      rfl
    · subst es
      rw [klen, List.take_length] at h3
      have hl := b3 _ _ (Ne.symm nMa) hbu
      refine ⟨hl, ?_⟩
      have b5 := ul _ b3
      have h5 : upd H3 a (.dK (kvN ms)) M = some (.dK (kvN (moveN φ ms))) := by rw [upd_ne nMa]; exact h3
      generalize upd H3 a (.dK (kvN ms)) = H5 at b5 h5
      have e05 : Ex H H5 := ExB.old e02 hM b5
      have hD5 : H5 D = some (.dK []) := b5 _ _ (Ne.symm nMD) h2
      have hbk := e05.get hk
      dsimp only
      repeat walk_at "st"
      refine ⟨b, .dK kvs, hbk, trivial, fun ob => ?_⟩
      repeat walk_at "st"
      refine ⟨_, rfl, b, ob, rfl, .inl ⟨kvs, upd_same, ?_⟩⟩
      have hb2 : upd H5 b (.frz ob (.dK kvs)) b = some (.frz ob (.dK kvs)) := upd_same
      have off : ∀ {x : Addr} {o : HO}, H5 x = some o → x ≠ b → upd H5 b (.frz ob (.dK kvs)) x = some o := fun {x o} h n => by rw [upd_ne n]; exact h
      have hDb := off hD5 nDb
      have hMb := off h5 nMb
      have htb := off (e05.get ht) (Ne.symm hbt)
      have rowB : ∀ {t : Addr} {c : Cell}, H t = some (.tup (rowT c)) → upd H5 b (.frz ob (.dK kvs)) t = some (.tup (rowT c)) ∧ t ≠ D := fun {t c} h => ⟨off (e05.get h) (ne_of h hk (fun z => nomatch z)), fun z => by rw [z, hD0] at h; cases h⟩
      have ul2 : ∀ H', ExB D (upd H5 b (.frz ob (.dK kvs))) H' → ExB D H5 (upd H' b (.dK kvs)) := fun H' q => unlock_exB hbk q
      generalize upd H5 b (.frz ob (.dK kvs)) = Hb at hb2 hDb hMb htb rowB ul2 ⊢
      refine for_it (walk_keys (kvs := kvs)) (fun i σ' H' => ∃ (v6 v7 v8 v9 : Option V) (kvr : List (L2.Key × V)), σ' = [some (.ref a), some (.ref b), some (.ref td), some (.ref M), some (.ref D), v5, v6, v7, v8, v9] ∧ ExB D Hb H' ∧ H' D = some (.dK kvr) ∧ RowsOf H' kvr ((xs.take i).map (moveC φ))) ⟨none, none, none, none, [], rfl, ExB.of (Ex.refl _), hDb, .nil⟩ (fun i σ' H' _ ⟨_, _, _, _, _, _, bb, _⟩ => bb _ _ (Ne.symm nDb) hb2)
        (fun i x σ' Hx H6 hi ⟨v6, v7, v8, v9, kvr, es, b6, h6, R6⟩ y => ?_) (fun σ' H6 ⟨v6, v7, v8, v9, kvr, es, b6, h6, R6⟩ => ?_)
      · subst es
        obtain ⟨rfl, kk, vv, y, rfl⟩ := y
        obtain ⟨c, hc, hkk, _⟩ := Paired.get' hrw y
        dsimp only at hkk
        subst hkk
        have hat := hrw.val (kC c)
        rw [rowAt_mem nd (List.mem_of_getElem? hc)] at hat
        obtain ⟨vx, hv, t, rfl, ht0⟩ := hat
        have hlk := b6 _ _ (Ne.symm nDb) hb2
        obtain ⟨rt1, rt2⟩ := rowB ht0
        have ht6 := b6 _ _ rt2 rt1
        have hm6 := b6 _ _ (Ne.symm nDt) htb
        obtain ⟨s1, s2⟩ := hcS c (List.mem_of_getElem? hc)
        have hkvr := rows_len R6
        rw [List.length_map, List.length_take] at hkvr
        unfold rowT at ht6
        repeat walk_at "st"
        refine k_dgetE (k := kC c) rfl (.inr ⟨ob, hlk⟩) hv ?_
        repeat walk_at "st"
        refine k_dgetE (k := Sum.inl c.l) rfl (.inl hm6) (hφ _ s2) ?_
        repeat walk_at "st"
        intro t7 H7 ht7 e7 h7
        have hm7 := e7.get hm6
        repeat walk_at "st"
        refine k_dgetE (k := kC c) rfl (.inl hm7) (hφ _ s1) ?_
        refine k_dputE (k := Sum.inl (φ c.a)) rfl (e7.get h6) (by rw [sizeLine_eq]; omega) fun H8 b8 h8 => ?_
        have ht8 := b8 _ _ (ne_of h7 (e7.get h6) (fun z => nomatch z)) h7
        have R8 := ((R6.mono fun c v h => TRow.ex e7 h).mono fun c v h => TRow.exB (e7.get h6) b8 h).put (c := moveC φ c) (v := .ref t7) ⟨t7, rfl, ht8⟩
        have nin : rowAt kC ((xs.take i).map (moveC φ)) (kC (moveC φ c)) = none := rowAt_none' fun d hd he => by
          obtain ⟨d0, hd0, rfl⟩ := List.mem_map.mp hd
          have he1 : φ d0.a = φ c.a := Sum.inl.inj he
          have he2 := hinj _ (hcS d0 (List.mem_of_mem_take hd0)).1 _ s1 he1
          obtain ⟨j, hj⟩ := List.mem_iff_getElem?.mp hd0
          rw [List.getElem?_take] at hj
          split at hj
          · rename_i hlt
            have a1 := cell_in nd (List.mem_of_getElem? hj)
            have a2 := cell_in nd (List.mem_of_getElem? hc)
            rw [he2, a2] at a1
            cases a1
            have nx : xs.Nodup := List.Pairwise.of_map kC (fun a b h e => h (by rw [e])) nd
            obtain ⟨l1, c1⟩ := List.getElem?_eq_some_iff.mp hj
            obtain ⟨l2, c2⟩ := List.getElem?_eq_some_iff.mp hc
            have d1 := nx.idxOf_getElem j l1
            have d2 := nx.idxOf_getElem i l2
            rw [c1] at d1
            rw [c2] at d2
            omega
          · cases hj
        rw [putR_new nin] at R8
        refine ⟨_, _, _, _, _, rfl, (b6.trans (ExB.of e7)).trans b8, h8, ?_⟩
        rw [List.take_add_one, hc, List.map_append]
        exact R8
      · subst es
        rw [hkl, List.take_length] at R6
        have hlk := b6 _ _ (Ne.symm nDb) hb2
        refine ⟨hlk, ?_⟩
        have b7 := ul2 _ b6
        have h7 : upd H6 b (.dK kvs) D = some (.dK kvr) := by rw [upd_ne nDb]; exact h6
        have hM7 : upd H6 b (.dK kvs) M = some (.dK (kvN (moveN φ ms))) := by rw [upd_ne nMb]; exact b6 _ _ nMD hMb
        have R7 : RowsOf (upd H6 b (.dK kvs)) kvr (xs.map (moveC φ)) := R6.mono fun c v ⟨t, e, ht⟩ => ⟨t, e, by rw [upd_ne (ne_of ht hlk (fun z => nomatch z))]; exact ht⟩
        generalize upd H6 b (.dK kvs) = H7 at b7 h7 hM7 R7
        have e07 : Ex H H7 := ExB.old e05 hD0 b7
        dsimp only
        repeat walk_at "st"
        intro p8 H8 hp8 e8 h8
        repeat walk_at "st"
        refine k H8 p8 M D (e07.trans e8) h8 hM hD0 nMD ⟨e8.get hM7, by rw [moveN_keys]; exact hN.2⟩ ⟨kvr, e8.get h7, R7.mono fun c v h => TRow.ex e8 h, ?_⟩
        rw [List.map_map]
        have nx : (xs.map (·.a)).Nodup := ckeys nd
        have : xs.map (kC ∘ moveC φ) = (xs.map (·.a)).map fun a => (Sum.inl (φ a) : L2.Key) := by rw [List.map_map]; rfl
        rw [this, List.nodup_iff_pairwise_ne, List.pairwise_map]
        refine List.Pairwise.imp_of_mem (fun {x y} hx hy h e => h ?_) nx
        obtain ⟨c, hc, rfl⟩ := List.mem_map.mp hx
        obtain ⟨d, hd, rfl⟩ := List.mem_map.mp hy
        exact hinj _ (hcS c hc).1 _ (hcS d hd).1 (Sum.inl.inj e)
end


/-! ### _law_alike: no program in sight -/
structure AlI (ns ms : List (Str × Int)) (cs ds : List Cell) (P T : List (Int × Int)) (k : Nat) : Prop where
  tz : (0, 0) ∈ T
  t1 : ∀ p ∈ T, ∀ q ∈ T, p.1 = q.1 → p = q
  t2 : ∀ p ∈ T, ∀ q ∈ T, p.2 = q.2 → p = q
  dn : ∀ (j : Nat) (p : Int × Int), j < k → P[j]? = some p → p ∈ T
  cl : ∀ p ∈ T, (cellOf cs p.1 = none ∧ cellOf ds p.2 = none) ∨ ∃ c d, cellOf cs p.1 = some c ∧ cellOf ds p.2 = some d ∧ c.m = d.m ∧ c.s = d.s ∧ (c.l, d.l) ∈ P
  nm : ∀ n ∈ ns, ∀ m ∈ ms, n.1 = m.1 → (n.2, m.2) ∈ P
  rl : ∀ R, Iso ns ms cs ds R → ∀ p ∈ P, R p.1 p.2
  rt : ∀ R, Iso ns ms cs ds R → ∀ p ∈ T, R p.1 p.2
  ln : ∃ u : List Int, u.Nodup ∧ (∀ a ∈ u, (∃ c ∈ cs, c.a = a) ∧ ∃ p ∈ T, p.1 = a) ∧ P.length = ns.length + u.length
section
variable {ns ms : List (Str × Int)} {cs ds : List Cell} {P T : List (Int × Int)} {k : Nat}
theorem AlI.len (A : AlI ns ms cs ds P T k) : P.length ≤ ns.length + cs.length := by
  obtain ⟨u, h1, h2, h3⟩ := A.ln
  have := nodup_le (l1 := u) (l2 := cs.map (·.a)) h1 fun a ha => by
    obtain ⟨⟨c, hc, e⟩, _⟩ := h2 a ha
    exact List.mem_map.mpr ⟨c, hc, e⟩
  rw [List.length_map] at this
  omega
theorem AlI.yes (A : AlI ns ms cs ds P T k) (hk : P.length ≤ k) (hn : ns.map (·.1) = ms.map (·.1)) : Alike ns ms cs ds := by
  have all : ∀ p ∈ P, p ∈ T := fun p hp => by
    obtain ⟨j, hj⟩ := List.mem_iff_getElem?.mp hp
    obtain ⟨hl, _⟩ := List.getElem?_eq_some_iff.mp hj
    exact A.dn j p (by omega) hj
  refine ⟨fun x y => (x, y) ∈ T, A.tz, fun x y y' h h' => ?_, fun x x' y h h' => ?_, hn, fun n m h h' e => all _ (A.nm n h m h' e), fun x y h => ?_⟩
  · exact (Prod.mk.inj (A.t1 _ h _ h' rfl)).2
  · exact (Prod.mk.inj (A.t2 _ h _ h' rfl)).1
  · rcases A.cl _ h with h1 | ⟨c, d, h1, h2, h3, h4, h5⟩
    · exact .inl h1
    · exact .inr ⟨c, d, h1, h2, h3, h4, all _ h5⟩
theorem AlI.stay (A : AlI ns ms cs ds P T k) (h : ∀ p, P[k]? = some p → p ∈ T) : AlI ns ms cs ds P T (k + 1) :=
  ⟨A.tz, A.t1, A.t2, fun j p hj hp => by
    by_cases e : j = k
    · exact h p (e ▸ hp)
    · exact A.dn j p (by omega) hp, A.cl, A.nm, A.rl, A.rt, A.ln⟩
/-- a pair more, of bare addresses -/
theorem AlI.bare (A : AlI ns ms cs ds P T k) {x y : Int} (hp : P[k]? = some (x, y)) (hx : ∀ p ∈ T, p.1 ≠ x) (hy : ∀ p ∈ T, p.2 ≠ y) (h1 : cellOf cs x = none) (h2 : cellOf ds y = none) : AlI ns ms cs ds P (T ++ [(x, y)]) (k + 1) := by
  have mem : ∀ {p : Int × Int}, p ∈ T ++ [(x, y)] ↔ p ∈ T ∨ p = (x, y) := fun {p} => by rw [List.mem_append, List.mem_singleton]
  obtain ⟨u, u1, u2, u3⟩ := A.ln
  refine ⟨mem.mpr (.inl A.tz), fun p hp' q hq e => ?_, fun p hp' q hq e => ?_, fun j p hj hjp => ?_, fun p hp' => ?_, A.nm, A.rl, fun R I p hp' => ?_, ⟨u, u1, fun a ha => ⟨(u2 a ha).1, let ⟨p, q1, q2⟩ := (u2 a ha).2; ⟨p, mem.mpr (.inl q1), q2⟩⟩, u3⟩⟩
  · rcases mem.mp hp' with a | a <;> rcases mem.mp hq with b | b
    · exact A.t1 p a q b e
    · rw [b] at e; exact absurd e (hx p a)
    · rw [a] at e; exact absurd e.symm (hx q b)
    · rw [a, b]
  · rcases mem.mp hp' with a | a <;> rcases mem.mp hq with b | b
    · exact A.t2 p a q b e
    · rw [b] at e; exact absurd e (hy p a)
    · rw [a] at e; exact absurd e.symm (hy q b)
    · rw [a, b]
  · by_cases e : j = k
    · rw [e, hp] at hjp
      cases hjp
      exact mem.mpr (.inr rfl)
    · exact mem.mpr (.inl (A.dn j p (by omega) hjp))
  · rcases mem.mp hp' with a | a
    · exact A.cl p a
    · rw [a]; exact .inl ⟨h1, h2⟩
  · rcases mem.mp hp' with a | a
    · exact A.rt R I p a
    · rw [a]; exact A.rl R I (x, y) (List.mem_of_getElem? hp)
/-- a pair more, of cells -/
theorem AlI.cells (A : AlI ns ms cs ds P T k) {x y : Int} {c d : Cell} (hp : P[k]? = some (x, y)) (hx : ∀ p ∈ T, p.1 ≠ x) (hy : ∀ p ∈ T, p.2 ≠ y) (h1 : cellOf cs x = some c) (h2 : cellOf ds y = some d) (h3 : c.m = d.m) (h4 : c.s = d.s) : AlI ns ms cs ds (P ++ [(c.l, d.l)]) (T ++ [(x, y)]) (k + 1) := by
  have mem : ∀ {p : Int × Int}, p ∈ T ++ [(x, y)] ↔ p ∈ T ∨ p = (x, y) := fun {p} => by rw [List.mem_append, List.mem_singleton]
  obtain ⟨hkl, _⟩ := List.getElem?_eq_some_iff.mp hp
  obtain ⟨k1, k2⟩ := cell_key h1
  obtain ⟨u, u1, u2, u3⟩ := A.ln
  refine ⟨mem.mpr (.inl A.tz), fun p hp' q hq e => ?_, fun p hp' q hq e => ?_, fun j p hj hjp => ?_, fun p hp' => ?_, fun n hn m hm e => List.mem_append_left _ (A.nm n hn m hm e), fun R I p hp' => ?_, fun R I p hp' => ?_, ⟨u ++ [x], ?_, fun a ha => ?_, ?_⟩⟩
  · rcases mem.mp hp' with a | a <;> rcases mem.mp hq with b | b
    · exact A.t1 p a q b e
    · rw [b] at e; exact absurd e (hx p a)
    · rw [a] at e; exact absurd e.symm (hx q b)
    · rw [a, b]
  · rcases mem.mp hp' with a | a <;> rcases mem.mp hq with b | b
    · exact A.t2 p a q b e
    · rw [b] at e; exact absurd e (hy p a)
    · rw [a] at e; exact absurd e.symm (hy q b)
    · rw [a, b]
  · rw [List.getElem?_append_left (by omega)] at hjp
    by_cases e : j = k
    · rw [e, hp] at hjp
      cases hjp
      exact mem.mpr (.inr rfl)
    · exact mem.mpr (.inl (A.dn j p (by omega) hjp))
  · rcases mem.mp hp' with a | a
    · rcases A.cl p a with q | ⟨c', d', q1, q2, q3, q4, q5⟩
      · exact .inl q
      · exact .inr ⟨c', d', q1, q2, q3, q4, List.mem_append_left _ q5⟩
    · rw [a]
      exact .inr ⟨c, d, h1, h2, h3, h4, List.mem_append_right _ (List.mem_singleton.mpr rfl)⟩
  · rcases List.mem_append.mp hp' with a | a
    · exact A.rl R I p a
    · rw [List.mem_singleton.mp a]
      have := A.rl R I (x, y) (List.mem_of_getElem? hp)
      rcases I.next x y this with ⟨q, _⟩ | ⟨c', d', q1, q2, _, _, q5⟩
      · rw [h1] at q; cases q
      · rw [h1] at q1
        rw [h2] at q2
        cases q1
        cases q2
        exact q5
  · rcases mem.mp hp' with a | a
    · exact A.rt R I p a
    · rw [a]; exact A.rl R I (x, y) (List.mem_of_getElem? hp)
  · refine List.nodup_append.mpr ⟨u1, by simp, fun a ha b hb e => ?_⟩
    obtain ⟨_, p, p1, p2⟩ := u2 a ha
    rw [List.mem_singleton.mp hb] at e
    exact hx p p1 (p2.trans e)
  · rcases List.mem_append.mp ha with q | q
    · obtain ⟨q1, p, p1, p2⟩ := u2 a q
      exact ⟨q1, p, mem.mpr (.inl p1), p2⟩
    · rw [List.mem_singleton.mp q]
      exact ⟨⟨c, k1, k2⟩, (x, y), mem.mpr (.inr rfl), rfl⟩
  · rw [List.length_append, List.length_append, u3]
    rfl
theorem AlI.start (hn : ns.map (·.1) = ms.map (·.1)) (no : NmOk ns) (P : List (Int × Int)) (hz : cellOf cs 0 = none ∧ cellOf ds 0 = none) (hp : ∀ p, p ∈ P ↔ ∃ n ∈ ns, ∃ m ∈ ms, n.1 = m.1 ∧ p = (n.2, m.2)) (hl : P.length = ns.length) : AlI ns ms cs ds P [(0, 0)] 0 :=
  ⟨List.mem_singleton.mpr rfl, fun p h q h' _ => by rw [List.mem_singleton.mp h, List.mem_singleton.mp h'], fun p h q h' _ => by rw [List.mem_singleton.mp h, List.mem_singleton.mp h'], fun j p h => absurd h (Nat.not_lt_zero _), fun p h => by rw [List.mem_singleton.mp h]; exact .inl hz, fun n h m h' e => (hp _).mpr ⟨n, h, m, h', e, rfl⟩, fun R I p h => by
    obtain ⟨n, h1, m, h2, e, rfl⟩ := (hp p).mp h
    exact I.val n m h1 h2 e, fun R I p h => by rw [List.mem_singleton.mp h]; exact I.zero, ⟨[], .nil, (fun _ h => nomatch h), by rw [hl]; rfl⟩⟩
end


/-! ### _law_alike: the walk -/
def PrV (H : Hp) (xs : List V) (P : List (Int × Int)) : Prop := xs.length = P.length ∧ ∀ (i : Nat) (x : V) (p : Int × Int), xs[i]? = some x → P[i]? = some p → ∃ t, x = .ref t ∧ H t = some (.tup [.int p.1, .int p.2])
theorem PrV.mono {H H' : Hp} {xs : List V} {P : List (Int × Int)} (h : PrV H xs P) (f : ∀ t ys, H t = some (.tup ys) → H' t = some (.tup ys)) : PrV H' xs P := ⟨h.1, fun i x p h1 h2 => let ⟨t, e, ht⟩ := h.2 i x p h1 h2; ⟨t, e, f _ _ ht⟩⟩
theorem PrV.snoc {H : Hp} {xs : List V} {P : List (Int × Int)} {t : Addr} {p : Int × Int} (h : PrV H xs P) (ht : H t = some (.tup [.int p.1, .int p.2])) : PrV H (xs ++ [.ref t]) (P ++ [p]) := by
  have hl := h.1
  refine ⟨by rw [List.length_append, List.length_append, hl]; rfl, fun i y q h1 h2 => ?_⟩
  by_cases hi : i < xs.length
  · rw [List.getElem?_append_left hi] at h1
    rw [List.getElem?_append_left (by omega)] at h2
    exact h.2 i y q h1 h2
  · rw [List.getElem?_append_right (by omega)] at h1
    rw [List.getElem?_append_right (by omega)] at h2
    have e1 : i - xs.length = 0 := by
      have := (List.getElem?_eq_some_iff.mp h1).1
      simp at this
      omega
    rw [e1] at h1
    rw [show i - P.length = 0 by omega] at h2
    cases h1
    cases h2
    exact ⟨t, rfl, ht⟩
def ThD (kt : List (L2.Key × V)) (T : List (Int × Int)) : Prop := (∀ p ∈ T, valV kt (Sum.inl p.1) = some (V.int p.2)) ∧ (∀ x v, valV kt (Sum.inl x) = some v → ∃ p ∈ T, p.1 = x ∧ v = .int p.2) ∧ kt.length ≤ T.length
def BkD (kb : List (L2.Key × V)) (T : List (Int × Int)) : Prop := (∀ p ∈ T, valV kb (Sum.inl p.2) = some (V.int p.1)) ∧ (∀ y v, valV kb (Sum.inl y) = some v → ∃ p ∈ T, p.2 = y ∧ v = .int p.1) ∧ kb.length ≤ T.length
theorem ThD.none {kt : List (L2.Key × V)} {T : List (Int × Int)} (h : ThD kt T) {x : Int} (hx : ∀ p ∈ T, p.1 ≠ x) : valV kt (Sum.inl x) = none := by
  cases e : valV kt (Sum.inl x) with
  | none => rfl
  | some v => obtain ⟨p, hp, ep, _⟩ := h.2.1 x v e; exact absurd ep (hx p hp)
theorem BkD.none {kb : List (L2.Key × V)} {T : List (Int × Int)} (h : BkD kb T) {y : Int} (hy : ∀ p ∈ T, p.2 ≠ y) : valV kb (Sum.inl y) = none := by
  cases e : valV kb (Sum.inl y) with
  | none => rfl
  | some v => obtain ⟨p, hp, ep, _⟩ := h.2.1 y v e; exact absurd ep (hy p hp)
theorem ThD.put {kt : List (L2.Key × V)} {T : List (Int × Int)} (h : ThD kt T) {x y : Int} (hx : ∀ p ∈ T, p.1 ≠ x) : ThD (putK kt (Sum.inl x) (.int y)) (T ++ [(x, y)]) := by
  refine ⟨fun p hp => ?_, fun z v hv => ?_, ?_⟩
  · rw [valV_put]
    rcases List.mem_append.mp hp with q | q
    · rw [if_neg (fun z => hx p q (Sum.inl.inj z))]
      exact h.1 p q
    · rw [List.mem_singleton.mp q, if_pos rfl]
  · rw [valV_put] at hv
    by_cases e : z = x
    · rw [if_pos (by rw [e])] at hv
      exact ⟨(x, y), List.mem_append_right _ (List.mem_singleton.mpr rfl), e.symm, (Option.some.inj hv).symm⟩
    · rw [if_neg (fun q => e (Sum.inl.inj q))] at hv
      obtain ⟨p, hp, q⟩ := h.2.1 z v hv
      exact ⟨p, List.mem_append_left _ hp, q⟩
  · have := length_putK kt (Sum.inl x) (.int y)
    have := h.2.2
    rw [List.length_append]
    simp only [List.length_cons, List.length_nil]
    omega
theorem BkD.put {kb : List (L2.Key × V)} {T : List (Int × Int)} (h : BkD kb T) {x y : Int} (hy : ∀ p ∈ T, p.2 ≠ y) : BkD (putK kb (Sum.inl y) (.int x)) (T ++ [(x, y)]) := by
  refine ⟨fun p hp => ?_, fun z v hv => ?_, ?_⟩
  · rw [valV_put]
    rcases List.mem_append.mp hp with q | q
    · rw [if_neg (fun z => hy p q (Sum.inl.inj z))]
      exact h.1 p q
    · rw [List.mem_singleton.mp q, if_pos rfl]
  · rw [valV_put] at hv
    by_cases e : z = y
    · rw [if_pos (by rw [e])] at hv
      exact ⟨(x, y), List.mem_append_right _ (List.mem_singleton.mpr rfl), e.symm, (Option.some.inj hv).symm⟩
    · rw [if_neg (fun q => e (Sum.inl.inj q))] at hv
      obtain ⟨p, hp, q⟩ := h.2.1 z v hv
      exact ⟨p, List.mem_append_left _ hp, q⟩
  · have := length_putK kb (Sum.inl y) (.int x)
    have := h.2.2
    rw [List.length_append]
    simp only [List.length_cons, List.length_nil]
    omega
theorem shp_strsL (xs : List Str) (h : ∀ z ∈ xs, PyData.strOk z = true) : SeqAt.shaped (.list (xs.map PyData.str)) = true := by
  obtain ⟨h1, h2⟩ := lay_strsA xs h
  unfold SeqAt.shaped
  have h3 : (PyData.list (xs.map PyData.str)).depth ≤ 64 := by
    rw [PyData.depth, h2]
    omega
  have h4 : (PyData.list (xs.map PyData.str)).canLay0 = true := by
    rw [PyData.canLay0]
    exact h1
  rw [h4, decide_eq_true h3]
  rfl
theorem k_neSL {K : PySem.W.Frag} {H : Hp} {Q : VK} {a b : Addr} {xs ys : List Str} (h1 : SqL K H a (xs.map V.str)) (h2 : SqL K H b (ys.map V.str)) (s1 : ∀ z ∈ xs, PyData.strOk z = true) (s2 : ∀ z ∈ ys, PyData.strOk z = true) (q : Q (.bl (!decide (xs = ys))) H) : rNeD K (.ref a) (.ref b) H Q :=
  ⟨.list (xs.map PyData.str), .list (ys.map PyData.str), .lst h1 (dp_strsA xs), .lst h2 (dp_strsA ys), shp_strsL xs s1, shp_strsL ys s2, by rw [PyData.eqv, eqv_strsA]; exact q⟩
theorem sorted_eq {ys : List Str} {ms ns : List (Str × Int)} (pm : ys.Perm (ms.map (·.1))) (so : sortedS ys = true) (nd : (ms.map (·.1)).Nodup) (no : NmOk ns) (h : ∀ n, n ∈ ns ↔ n ∈ ms) : ys = ns.map (·.1) := by
  refine strict_unique (lt := fun x y : Str => x.cps.toList < y.cps.toList) str_lt_irrefl str_lt_trans (strs_strict pm so nd) (by unfold NmOk at no; rw [List.pairwise_map]; exact no) fun x => ?_
  rw [pm.mem_iff, List.mem_map, List.mem_map]
  exact ⟨fun ⟨n, h1, h2⟩ => ⟨n, (h n).mpr h1, h2⟩, fun ⟨n, h1, h2⟩ => ⟨n, (h n).mp h1, h2⟩⟩
theorem cells_len {cs xs : List Cell} (co : CsOk cs) (nd : (xs.map kC).Nodup) (h : ∀ c, c ∈ cs ↔ c ∈ xs) : cs.length = xs.length := by
  have h1 := nodup_le (l1 := cs.map (·.a)) (l2 := xs.map (·.a)) (ckeys co.nd) fun a ha => by
    obtain ⟨c, hc, e⟩ := List.mem_map.mp ha
    exact List.mem_map.mpr ⟨c, (h c).mp hc, e⟩
  have h2 := nodup_le (l1 := xs.map (·.a)) (l2 := cs.map (·.a)) (ckeys nd) fun a ha => by
    obtain ⟨c, hc, e⟩ := List.mem_map.mp ha
    exact List.mem_map.mpr ⟨c, (h c).mpr hc, e⟩
  rw [List.length_map, List.length_map] at h1 h2
  omega
def mateV (ms : List (Str × Int)) (s : Str) : Int := match valV (kvN ms) (Sum.inr s) with
  | some (.int v) => v
  | _ => 0
theorem mateV_eq {ms : List (Str × Int)} (nd : (ms.map (·.1)).Nodup) {m : Str × Int} (h : m ∈ ms) : valV (kvN ms) (Sum.inr m.1) = some (.int m.2) ∧ mateV ms m.1 = m.2 := by
  have e := kvN_some nd h
  exact ⟨e, by unfold mateV; rw [e]⟩
def prs (ns ms : List (Str × Int)) : List (Int × Int) := ns.map fun n => (n.2, mateV ms n.1)
def TPr (H : Hp) (ms : List (Str × Int)) (n : Str × Int) (v : V) : Prop := ∃ t, v = .ref t ∧ H t = some (.tup [.int n.2, .int (mateV ms n.1)])
theorem TPr.prv {H : Hp} {ns ms : List (Str × Int)} {vs : List V} (h : Paired (TPr H ms) ns vs) : PrV H vs (prs ns ms) := by
  refine ⟨by unfold prs; rw [List.length_map, Paired.length h], fun i x p h1 h2 => ?_⟩
  unfold prs at h2
  rw [List.getElem?_map] at h2
  cases e : ns[i]? with
  | none => rw [e] at h2; cases h2
  | some n =>
    rw [e] at h2
    cases h2
    obtain ⟨y, hy, q⟩ := Paired.get' h e
    rw [h1] at hy
    cases hy
    exact q
def spAlike (K : PySem.W.Frag) : Sp := fun vs H Q _ => ∃ (a b c d : Addr) (ns ns' ms ms' : List (Str × Int)) (cs xs ds ys : List Cell), vs = [.ref a, .ref b, .ref c, .ref d] ∧ DictN H a ns' ∧ DictC H b xs ∧ DictN H c ms' ∧ DictC H d ys ∧ a ≠ c ∧ ns'.length ≤ 20 ∧ ms'.length ≤ 20 ∧ xs.length ≤ 60 ∧ ys.length ≤ 60 ∧
  (∀ n, n ∈ ns ↔ n ∈ ns') ∧ (∀ n, n ∈ ms ↔ n ∈ ms') ∧ (∀ c, c ∈ cs ↔ c ∈ xs) ∧ (∀ c, c ∈ ds ↔ c ∈ ys) ∧ Kept ns cs ∧ Kept ms ds ∧ (∀ n ∈ ns', PyData.strOk n.1 = true) ∧ (∀ n ∈ ms', PyData.strOk n.1 = true) ∧
  ∀ H' r, Ex H H' → (r = true ↔ Alike ns ms cs ds) → Q (.bl r) H'
section
variable {P : Program} {w : World} {K : PySem.W.Frag} {mg : Str → Option Value} {base : Heap}
theorem c_l_alike (T : Tx w K mg) : Cal P w K mg base CX0 1 "_law_alike" ["one", "cells", "two", "rows"] (spAlike K) := by
  refine cal_mk T.D_l_alike T.m__law_alike sc_l_alike (fun _ _ _ _ _ _ us hl => match us, hl with | [_, _, _, _], _ => rfl) (fun vs H Q E h => ?_) (fun f cdv A outer s H vs Q E hr h => ?_)
  · obtain ⟨a, b, c, d, ns, ns', ms, ms', cs, xs, ds, ys, rfl, _⟩ := h
    rfl
  · obtain ⟨a, b, c, d, ns, ns', ms, ms', cs, xs, ds, ys, rfl, hN, hC, hM, hD, hac, hnl, hml, hxl, hyl, hnn, hmm, hcc, hdd, K1, K2, sn, sm, k⟩ := h
    have hu := hu_of hr
    obtain ⟨kvx, hx, hrx, ndx⟩ := id hC
    obtain ⟨kvy, hy, hry, ndy⟩ := id hD
    have hkx := rows_len hrx
    have hky := rows_len hry
    have hcl := cells_len K1.co ndx hcc
    have hdl := cells_len K2.co ndy hdd
    have hce : ∀ z, cellOf cs z = cellOf xs z := fun z => (rowAt_ext K1.co.nd ndx).mp hcc (Sum.inl z)
    have hde : ∀ z, cellOf ds z = cellOf ys z := fun z => (rowAt_ext K2.co.nd ndy).mp hdd (Sum.inl z)
    have no : ∀ H', Ex H H' → ¬ Alike ns ms cs ds → Q (.bl false) H' := fun H' e h => k H' false e ⟨(fun z => nomatch z), fun z => absurd z h⟩
    have kN : ∀ l : List (Str × Int), (kvN l).map (·.1) = (l.map (·.1)).map Sum.inr := fun l => by unfold kvN; rw [List.map_map, List.map_map]; rfl
    refine ⟨_, ((pss_cons (ps_if (PW.pt (pw_or (pt_cmpR (op_neD (hu64 hr)) (pe_callB (call_sortedD rfl) rfl T.f_sorted (by decide +kernel) (pa_cons (pv 0) pa_nil)) (pe_callB (call_sortedD rfl) rfl T.f_sorted (by decide +kernel) (pa_cons (pv 2) pa_nil)) (nomark _)) (pw_or1 (pt_cmpR op_ne (pe_callB cr_lenD rfl T.f_len (by decide +kernel) (pa_cons (pv 1) pa_nil)) (pe_callB cr_lenD rfl T.f_len (by decide +kernel) (pa_cons (pv 3) pa_nil)) (nomark _))))) (pss_one (ps_ret pe_bl)) pss_nil)
  (pss_cons (ps_lock (ps_setLc (i := 4) (own := [("name", 5)]) rfl sc_l_alike.nd rfl rfl (sw_true rfl rfl rfl (by decide +kernel)) (pi_keys (pv 0)) (blkOk_by (N := ["one", "cells", "two", "rows", "pairs", "name", "there", "back", "k", "x", "y", "mark", "link", "share"]) (sc := defScope s_l_alike) (by decide +kernel)) (fun _ _ _ _ _ => (pg_name (i := 5) sc_l_alike.nd rfl (Or.inl rfl))) (fun _ _ _ _ _ => pts_nil) (fun _ _ _ _ _ => (pe_tup (pa_cons (pe_dget hu (pv 0) (pv 5) (fun _ _ => rfl)) (pa_cons (pe_dget hu (pv 2) (pv 5) (fun _ _ => rfl)) pa_nil))))))
  (pss_cons (ps_par (i := 6) (j := 7) rfl sc_l_alike.nd rfl rfl (by decide) rfl rfl (pa_cons (pe_disp (pps_cons pe_int pe_int pps_nil) rfl rfl (List.cons_ne_nil _ _) (by decide)) (pa_cons (pe_disp (pps_cons pe_int pe_int pps_nil) rfl rfl (List.cons_ne_nil _ _) (by decide)) pa_nil)) rfl)
  (pss_cons (ps_for PassesOwn.never rfl (pi_range1 rfl T.f_range (pa_cons pe_int pa_nil)) (pg_name (i := 8) sc_l_alike.nd rfl (Or.inl rfl)) (pss_one (ps_if (pt_cmpR o_lt (pv 8) (pe_callB cr_len rfl T.f_len (by decide +kernel) (pa_cons (pv 4) pa_nil)) (nomark _)) (pss_cons (ps_asg (pe_ix (ix_listK (K := K) rfl) (pv 4) (pv 8) (fun _ _ => rfl)) (pg_tup (n := 2) rfl (pgs_cons (pg_name (i := 9) sc_l_alike.nd rfl (Or.inl rfl)) (pgs_cons (pg_name (i := 10) sc_l_alike.nd rfl (Or.inl rfl)) pgs_nil))))
  (pss_one (ps_if (PW.pt (pw_or (pt_cmp (pc_din hu (pv 9) (pv 6)) rfl) (pw_or1 (pt_cmp (pc_din hu (pv 10) (pv 7)) rfl)))) (pss_one (ps_if (PW.pt (pw_or (pt_cmpR op_ne (pe_dget1 hu (pv 6) (pv 9) ⟨rfl, rfl, rfl, rfl⟩) (pv 10) (nomark _)) (pw_or1 (pt_cmpR op_ne (pe_dget1 hu (pv 7) (pv 10) ⟨rfl, rfl, rfl, rfl⟩) (pv 9) (nomark _))))) (pss_one (ps_ret pe_bl)) pss_nil)) (pss_cons (ps_dput hu (pv 6) (pv 9) (pv 10) rfl)
  (pss_cons (ps_dput hu (pv 7) (pv 10) (pv 9) rfl)
  (pss_cons (ps_if (pt_cmpR op_ne (pe_cmp (pc_din hu (pv 9) (pv 1)) rfl) (pe_cmp (pc_din hu (pv 10) (pv 3)) rfl) (nomark _)) (pss_one (ps_ret pe_bl)) pss_nil)
  (pss_one (ps_if (pt_cmp (pc_din hu (pv 9) (pv 1)) rfl) (pss_cons (ps_asg (pe_dget hu (pv 1) (pv 9) (fun _ _ => rfl)) (pg_tup (n := 3) rfl (pgs_cons (pg_name (i := 11) sc_l_alike.nd rfl (Or.inl rfl)) (pgs_cons (pg_name (i := 12) sc_l_alike.nd rfl (Or.inl rfl)) (pgs_cons (pg_name (i := 13) sc_l_alike.nd rfl (Or.inl rfl)) pgs_nil)))))
  (pss_cons (ps_if (PW.pt (pw_or (pt_cmpR op_ne (pe_ix (ix_tupK (K := K) rfl) (pe_dget hu (pv 3) (pv 10) (fun _ _ => rfl)) pe_int (fun _ _ => rfl)) (pv 11) (nomark _)) (pw_or1 (pt_cmpR op_ne (pe_ix (ix_tupK (K := K) rfl) (pe_dget hu (pv 3) (pv 10) (fun _ _ => rfl)) pe_int (fun _ _ => rfl)) (pv 13) (nomark _))))) (pss_one (ps_ret pe_bl)) pss_nil)
  (pss_one (ps_expr (pe_bm PySem.F.plainAttrs_list PySem.F.slot_list_append PySem.F.type_list_append mt_append (pv 4) (pa_cons (pe_tup (pa_cons (pv 12) (pa_cons (pe_ix (ix_tupK (K := K) rfl) (pe_dget hu (pv 3) (pv 10) (fun _ _ => rfl)) pe_int (fun _ _ => rfl)) pa_nil))) pa_nil)))))) pss_nil)))))))) pss_nil)))
  (pss_one (ps_ret pe_bl))))))), ?_⟩
    dsimp only [cxOf, Cx.nox]
    repeat walk_at "st"
    refine ⟨a, kvN ns', ns'.map (·.1), rfl, .inl hN.1, kN ns', by rw [List.length_map]; omega, fun ya pa pma soa hpa => ?_⟩
    obtain rfl := sorted_eq pma soa hN.2 K1.no hnn
    have e1 : Ex H (upd H pa (.lst ((ns.map (·.1)).map V.str))) := Ex.new hpa
    have h1 : upd H pa (.lst ((ns.map (·.1)).map V.str)) pa = some (.lst ((ns.map (·.1)).map V.str)) := upd_same
    generalize upd H pa (.lst ((ns.map (·.1)).map V.str)) = H1 at e1 h1
    repeat walk_at "st"
    refine ⟨c, kvN ms', ms'.map (·.1), rfl, .inl (e1.get hM.1), kN ms', by rw [List.length_map]; omega, fun yb pb pmb sob hpb => ?_⟩
    obtain rfl := sorted_eq pmb sob hM.2 K2.no hmm
    have e2 : Ex H1 (upd H1 pb (.lst ((ms.map (·.1)).map V.str))) := Ex.new hpb
    have h2 : upd H1 pb (.lst ((ms.map (·.1)).map V.str)) pb = some (.lst ((ms.map (·.1)).map V.str)) := upd_same
    generalize upd H1 pb (.lst ((ms.map (·.1)).map V.str)) = H2 at e2 h2
    have e02 := e1.trans e2
    refine k_neSL (.inl (.inl (e2.get h1))) (.inl (.inl h2)) (fun z hz => by obtain ⟨n, hn, rfl⟩ := List.mem_map.mp hz; exact sn n ((hnn n).mp hn)) (fun z hz => by obtain ⟨n, hn, rfl⟩ := List.mem_map.mp hz; exact sm n ((hmm n).mp hn)) ?_
    have hx2 := e02.get hx
    have hy2 := e02.get hy
    by_cases hnm : ns.map (·.1) = ms.map (·.1)
    rotate_left
    · rw [decide_eq_false hnm]
      repeat walk_at "st"
      exact no _ e02 fun ⟨_, I⟩ => hnm I.names
    rw [decide_eq_true hnm]
    repeat walk_at "st"
    by_cases hlen : xs.length = ys.length
    rotate_left
    · rw [decide_eq_false (show ¬ V.int (kvx.length : Nat) = V.int (kvy.length : Nat) from fun z => hlen (by have := V.int.inj z; omega))]
      repeat walk_at "st"
      exact no _ e02 fun ⟨_, I⟩ => hlen (by rw [← hcl, ← hdl]; exact I.len K1.co K2.co K1.hr K2.hr)
    rw [decide_eq_true (show V.int (kvx.length : Nat) = V.int (kvy.length : Nat) by rw [hkx, hky, hlen])]
    repeat walk_at "st"
    refine ⟨a, .dK (kvN ns'), e02.get hN.1, trivial, fun od => ?_⟩
    repeat walk_at "st"
    refine ⟨_, rfl, a, od, rfl, .inl ⟨kvN ns', upd_same, ?_⟩⟩
    have hbu : upd H2 a (.frz od (.dK (kvN ns'))) a = some (.frz od (.dK (kvN ns'))) := upd_same
    have klen : (kvN ns').length = ns'.length := List.length_map _
    have mate : ∀ n ∈ ns', ∃ m ∈ ms', m.1 = n.1 := fun n hn => by
      have h1 : n.1 ∈ ms.map (·.1) := by rw [← hnm]; exact List.mem_map.mpr ⟨n, (hnn n).mpr hn, rfl⟩
      obtain ⟨m, hm, e⟩ := List.mem_map.mp h1
      exact ⟨m, (hmm m).mp hm, e⟩
    have hM2 : upd H2 a (.frz od (.dK (kvN ns'))) c = some (.dK (kvN ms')) := by rw [upd_ne (Ne.symm hac)]; exact e02.get hM.1
    refine lc_rel (walk_keys (kvs := kvN ns')) (fun _ => true) (fun i y H' => ∃ n, ns'[i]? = some n ∧ TPr H' ms' n y) (by omega)
      (fun i y H H' e ⟨n, a, t, b, c⟩ => ⟨n, a, t, b, e _ _ (fun l z => nomatch z) c⟩) (fun H' e => e.get hbu) (fun i x Hx H5 R1 R0 hi e y k1 k0 => ?_) (fun D Hx vs hD e hL pr => ?_)
    · obtain ⟨rfl, kk, vv, y, rfl⟩ := y
      obtain ⟨n, hn⟩ : ∃ n, ns'[i]? = some n := ⟨ns'[i]'(by omega), List.getElem?_eq_getElem (by omega)⟩
      unfold kvN at y
      rw [List.getElem?_map, hn] at y
      cases y
      have hnm' := List.mem_of_getElem? hn
      have hv := kvN_some hN.2 hnm'
      obtain ⟨m, hm, em⟩ := mate n hnm'
      obtain ⟨hv2, em2⟩ := mateV_eq hM.2 hm
      rw [em] at hv2 em2
      have hl := e.get hbu
      have hl2 := e.get hM2
      refine ⟨rfl, ?_⟩
      repeat walk_at "st"
      refine k_dgetE (k := Sum.inr n.1) rfl (.inr ⟨od, hl⟩) hv ?_
      repeat walk_at "st"
      refine k_dgetE (k := Sum.inr n.1) rfl (.inl hl2) hv2 ?_
      repeat walk_at "st"
      intro t H6 ht e6 h6
      rw [← em2] at h6
      exact k1 _ _ e6 rfl ⟨n, hn, t, rfl, h6⟩
    · have ha' := e.get hbu
      have nDa : D ≠ a := fun z => by rw [z, hbu] at hD; cases hD
      have e1' := unlock_ex (e02.get hN.1) e
      have hL1 : upd Hx a (.dK (kvN ns')) D = some (.lst vs) := by rw [upd_ne nDa]; exact hL
      have pr1 : Paired (TPr (upd Hx a (.dK (kvN ns'))) ms') ns' vs := by
        rw [filter_true] at pr
        refine paired_range (G := TPr (upd Hx a (.dK (kvN ns'))) ms') klen pr fun i y n hn ⟨n', h1, t, h2, h3⟩ => ?_
        rw [hn] at h1
        cases h1
        exact ⟨t, h2, by rw [upd_ne (ne_of h3 ha' (fun z => nomatch z))]; exact h3⟩
      have nD : H2 D = none := by rw [upd_ne nDa] at hD; exact hD
      refine ⟨ha', ?_⟩
      generalize upd Hx a (.dK (kvN ns')) = H3 at e1' hL1 pr1
      repeat walk_at "st"
      refine k_disp1 (k := Sum.inl 0) (v := .int 0) (fun _ _ h => h) (fun _ _ h => h) fun p6 H4 hp6 e4 h6 => ?_
      repeat walk_at "st"
      refine k_disp1 (k := Sum.inl 0) (v := .int 0) (fun _ _ h => h) (fun _ _ h => h) fun p7 H5 hp7 e5 h7 => ?_
      repeat walk_at "st"
      have nD3 : H3 D = some (.lst vs) := hL1
      have D5 : H5 D = some (.lst vs) := e5.get (e4.get hL1)
      have h65 : H5 p6 = some (.dK [(Sum.inl 0, .int 0)]) := e5.get h6
      have n2 : ∀ {x : Addr}, H3 x = none → H2 x = none := fun h => e1'.none h
      have n6 : H2 p6 = none := n2 hp6
      have n7 : H2 p7 = none := n2 (e4.none hp7)
      have nD6 : D ≠ p6 := fun z => by rw [← z, hL1] at hp6; cases hp6
      have nD7 : D ≠ p7 := fun z => by rw [← z, e4.get hL1] at hp7; cases hp7
      have n67 : p6 ≠ p7 := fun z => by rw [← z, h6] at hp7; cases hp7
      have hnl' : ns.length = ns'.length := by
        have := pma.length_eq
        rwa [List.length_map, List.length_map] at this
      have z0 : ∀ {l : List Cell}, (∀ c ∈ l, c.a ≠ 0) → cellOf l 0 = none := fun {l} h => by
        cases e : cellOf l 0 with
        | none => rfl
        | some c => exact absurd (cell_key e).2 (h c (cell_key e).1)
      have A0 : AlI ns ms cs ds (prs ns' ms') [(0, 0)] 0 := by
        refine AlI.start hnm K1.no (prs ns' ms') ⟨z0 K1.h0, z0 K2.h0⟩ (fun p => ?_) (by unfold prs; rw [List.length_map, hnl'])
        unfold prs
        rw [List.mem_map]
        constructor
        · rintro ⟨n, hn, rfl⟩
          obtain ⟨m, hm, em⟩ := mate n hn
          refine ⟨n, (hnn n).mpr hn, m, (hmm m).mpr hm, em.symm, ?_⟩
          have := (mateV_eq hM.2 hm).2
          rw [em] at this
          rw [this]
        · rintro ⟨n, hn, m, hm, em, rfl⟩
          refine ⟨n, (hnn n).mp hn, ?_⟩
          have := (mateV_eq hM.2 ((hmm m).mp hm)).2
          rw [← em] at this
          rw [this]
      refine for_range (lo := 0) (fun i σ' H' => ∃ (vs : List V) (P T : List (Int × Int)) (kt kb : List (L2.Key × V)) (v5 v8 v9 v10 v11 v12 v13 : Option V), σ' = [some (.ref a), some (.ref b), some (.ref c), some (.ref d), some (.ref D), v5, some (.ref p6), some (.ref p7), v8, v9, v10, v11, v12, v13] ∧ Ex H2 H' ∧ H' D = some (.lst vs) ∧ PrV H' vs P ∧ H' p6 = some (.dK kt) ∧ H' p7 = some (.dK kb) ∧ ThD kt T ∧ BkD kb T ∧ AlI ns ms cs ds P T i ∧ T.length ≤ i + 1) ⟨vs, prs ns' ms', [(0, 0)], _, _, _, _, _, _, _, _, _, rfl, (e1'.trans e4).trans e5, D5, (TPr.prv pr1).mono (fun t ys h => e5.get (e4.get h)), h65, h7, ?_, ?_, A0, by simp⟩ (fun i σ' H' hi ⟨vs, P, T, kt, kb, v5, v8, v9, v10, v11, v12, v13, es, ex, hD', pv, ht, hb, th, bk, AI, tl⟩ => ?_) (fun σ' H' ⟨vs, P, T, kt, kb, v5, v8, v9, v10, v11, v12, v13, es, ex, hD', pv, ht, hb, th, bk, AI, tl⟩ => ?_)
      · exact ⟨fun p h => by rw [List.mem_singleton.mp h]; rfl, fun x v h => by
          unfold valV at h
          simp only [List.find?_cons, List.find?_nil] at h
          by_cases e : (0 : Int) = x
          · subst e
            simp at h
            exact ⟨(0, 0), List.mem_singleton.mpr rfl, rfl, h.symm⟩
          · simp [e] at h, by simp⟩
      · exact ⟨fun p h => by rw [List.mem_singleton.mp h]; rfl, fun x v h => by
          unfold valV at h
          simp only [List.find?_cons, List.find?_nil] at h
          by_cases e : (0 : Int) = x
          · subst e
            simp at h
            exact ⟨(0, 0), List.mem_singleton.mpr rfl, rfl, h.symm⟩
          · simp [e] at h, by simp⟩
      · subst es
        have hPl := AI.len
        have hvl := pv.1
        repeat walk_at "st"
        by_cases hik : i < P.length
        · obtain ⟨⟨x, y⟩, hp⟩ : ∃ p, P[i]? = some p := ⟨_, List.getElem?_eq_getElem hik⟩
          obtain ⟨z, hz⟩ : ∃ z, vs[i]? = some z := ⟨_, List.getElem?_eq_getElem (by omega)⟩
          obtain ⟨t, rfl, htt⟩ := pv.2 i z _ hz hp
          rw [if_pos (decide_eq_true (show (0 : Int) + (i : Int) < (vs.length : Int) by omega))]
          have hx2' := ex.get hx2
          have hy2' := ex.get hy2
          repeat walk_at "st"
          refine k_ixL (.inl (.inl hD')) (show atI vs (0 + (i : Int)) = some (.ref t) by rw [Int.zero_add]; exact atI_nat hz) ?_
          repeat walk_at "st"
          refine k_dinE (k := Sum.inl x) rfl (.inl ht) ?_
          repeat walk_at "st"
          by_cases hxT : ∀ p ∈ T, p.1 ≠ x
          · rw [th.none hxT]
            repeat walk_at "st"
            refine k_dinE (k := Sum.inl y) rfl (.inl hb) ?_
            repeat walk_at "st"
            by_cases hyT : ∀ p ∈ T, p.2 ≠ y
            · rw [bk.none hyT]
              repeat walk_at "st"
              refine k_dputE (k := Sum.inl x) rfl ht (by rw [sizeLine_eq]; have := th.2.2; omega) fun H6 b6 h6b => ?_
              repeat walk_at "st"
              refine k_dputE (k := Sum.inl y) rfl (b6 _ _ (Ne.symm n67) hb) (by rw [sizeLine_eq]; have := bk.2.2; omega) fun H7 b7 h7b => ?_
              have ex7 : Ex H2 H7 := ExB.old (ExB.old ex n6 b6) n7 b7
              have D7 := b7 _ _ nD7 (b6 _ _ nD6 hD')
              have t7 := b7 _ _ n67 h6b
              have pv7 : PrV H7 vs P := pv.mono fun t ys h => b7 _ _ (ne_of h hb (fun z => nomatch z)) (b6 _ _ (ne_of h ht (fun z => nomatch z)) h)
              have th7 := th.put (y := y) hxT
              have bk7 := bk.put (x := x) hyT
              generalize putK kt (Sum.inl x) (V.int y) = kt7 at t7 th7 h6b
              generalize putK kb (Sum.inl y) (V.int x) = kb7 at h7b bk7
              have hx7 := ex7.get hx2
              have hy7 := ex7.get hy2
              have vx := hrx.val (Sum.inl x)
              have vy := hry.val (Sum.inl y)
              have mp := List.mem_of_getElem? hp
              repeat walk_at "st"
              refine k_dinE (k := Sum.inl x) rfl (.inl hx7) ?_
              repeat walk_at "st"
              refine k_dinE (k := Sum.inl y) rfl (.inl hy7) ?_
              refine k_ne rfl ?_
              have bad : ∀ R, Iso ns ms cs ds R → R x y := fun R I => AI.rl R I (x, y) mp
              have e07 : Ex H H7 := e02.trans ex7
              have tl7 : (T ++ [(x, y)]).length ≤ i + 1 + 1 := by rw [List.length_append]; simp only [List.length_cons, List.length_nil]; omega
              cases ex1 : cellOf xs x with
              | none =>
                rw [show rowAt kC xs (Sum.inl x) = none from ex1] at vx
                cases ey1 : cellOf ys y with
                | none =>
                  rw [show rowAt kC ys (Sum.inl y) = none from ey1] at vy
                  rw [vx, vy]
                  repeat walk_at "st"
                  rw [if_neg (show ¬ ((!decide (V.bl (none : Option V).isSome = V.bl (none : Option V).isSome)) = true) by simp)]
                  repeat walk_at "st"
                  refine k_dinE (k := Sum.inl x) rfl (.inl hx7) ?_
                  rw [vx]
                  repeat walk_at "st"
                  exact ⟨vs, P, T ++ [(x, y)], kt7, kb7, _, _, _, _, _, _, _, rfl, ex7, D7, pv7, t7, h7b, th7, bk7, AI.bare hp hxT hyT (by rw [hce, ex1]) (by rw [hde, ey1]), tl7⟩
                | some d1 =>
                  rw [show rowAt kC ys (Sum.inl y) = some d1 from ey1] at vy
                  obtain ⟨v2, hv2, _⟩ := vy
                  rw [vx, hv2]
                  repeat walk_at "st"
                  rw [if_pos (show (!decide (V.bl (none : Option V).isSome = V.bl (some v2).isSome)) = true by simp)]
                  repeat walk_at "st"
                  refine no _ e07 fun ⟨R, I⟩ => ?_
                  rcases I.next x y (bad R I) with ⟨_, q⟩ | ⟨c', d', q1, _⟩
                  · rw [hde, ey1] at q; cases q
                  · rw [hce, ex1] at q1; cases q1
              | some c1 =>
                rw [show rowAt kC xs (Sum.inl x) = some c1 from ex1] at vx
                obtain ⟨v1, hv1, u1, rfl, hu1⟩ := vx
                cases ey1 : cellOf ys y with
                | none =>
                  rw [show rowAt kC ys (Sum.inl y) = none from ey1] at vy
                  rw [hv1, vy]
                  repeat walk_at "st"
                  rw [if_pos (show (!decide (V.bl (some (V.ref u1)).isSome = V.bl (none : Option V).isSome)) = true by simp)]
                  repeat walk_at "st"
                  refine no _ e07 fun ⟨R, I⟩ => ?_
                  rcases I.next x y (bad R I) with ⟨q, _⟩ | ⟨c', d', _, q1, _⟩
                  · rw [hce, ex1] at q; cases q
                  · rw [hde, ey1] at q1; cases q1
                | some d1 =>
                  rw [show rowAt kC ys (Sum.inl y) = some d1 from ey1] at vy
                  obtain ⟨v2, hv2, u2, rfl, hu2⟩ := vy
                  have hu17 := (e07).get hu1
                  have hu27 := (e07).get hu2
                  unfold rowT at hu17 hu27
                  rw [hv1, hv2]
                  repeat walk_at "st"
                  rw [if_neg (show ¬ ((!decide (V.bl (some (V.ref u1)).isSome = V.bl (some (V.ref u2)).isSome)) = true) by simp)]
                  repeat walk_at "st"
                  refine k_dinE (k := Sum.inl x) rfl (.inl hx7) ?_
                  rw [hv1]
                  repeat walk_at "st"
                  refine k_dgetE (k := Sum.inl x) rfl (.inl hx7) hv1 ?_
                  repeat walk_at "st"
                  refine k_dgetE (k := Sum.inl y) rfl (.inl hy7) hv2 ?_
                  repeat walk_at "st"
                  by_cases hm : d1.m = c1.m
                  rotate_left
                  · rw [decide_eq_false (show ¬ V.str d1.m = V.str c1.m from fun z => hm (V.str.inj z))]
                    repeat walk_at "st"
                    refine no _ e07 fun ⟨R, I⟩ => ?_
                    rcases I.next x y (bad R I) with ⟨q, _⟩ | ⟨c', d', q1, q2, q3, _⟩
                    · rw [hce, ex1] at q; cases q
                    · rw [hce, ex1] at q1
                      rw [hde, ey1] at q2
                      cases q1
                      cases q2
                      exact hm q3.symm
                  rw [decide_eq_true (show V.str d1.m = V.str c1.m by rw [hm])]
                  repeat walk_at "st"
                  refine k_dgetE (k := Sum.inl y) rfl (.inl hy7) hv2 ?_
                  repeat walk_at "st"
                  by_cases hsh : d1.s = c1.s
                  rotate_left
                  · rw [decide_eq_false (show ¬ V.int d1.s = V.int c1.s from fun z => hsh (V.int.inj z))]
                    repeat walk_at "st"
                    refine no _ e07 fun ⟨R, I⟩ => ?_
                    rcases I.next x y (bad R I) with ⟨q, _⟩ | ⟨c', d', q1, q2, _, q3, _⟩
                    · rw [hce, ex1] at q; cases q
                    · rw [hce, ex1] at q1
                      rw [hde, ey1] at q2
                      cases q1
                      cases q2
                      exact hsh q3.symm
                  rw [decide_eq_true (show V.int d1.s = V.int c1.s by rw [hsh])]
                  repeat walk_at "st"
                  refine k_dgetE (k := Sum.inl y) rfl (.inl hy7) hv2 ?_
                  repeat walk_at "st"
                  intro q8 H8 hq8 e8 h8
                  have D8 := e8.get D7
                  repeat walk_at "st"
                  intro H9 b9 h9
                  have k9 : ∀ {x : Addr} {o : HO}, (∀ l, o ≠ .lst l) → H7 x = some o → H9 x = some o := fun {x o} ho h => b9 _ _ (ne_of (e8.get h) D8 (ho _)) (e8.get h)
                  exact ⟨vs ++ [V.ref q8], P ++ [(c1.l, d1.l)], T ++ [(x, y)], kt7, kb7, _, _, _, _, _, _, _, rfl, ExB.old (ex7.trans e8) nD b9, h9, (pv7.mono fun t ys h => k9 (fun _ z => nomatch z) h).snoc (b9 _ _ (ne_of h8 D8 (fun z => nomatch z)) h8), k9 (fun _ z => nomatch z) t7, k9 (fun _ z => nomatch z) h7b, th7, bk7, AI.cells hp hxT hyT (by rw [hce, ex1]) (by rw [hde, ey1]) hm.symm hsh.symm, tl7⟩
            · obtain ⟨p0, hp0, ep0⟩ : ∃ p ∈ T, p.2 = y := Classical.byContradiction fun z => hyT fun p h1 h2 => z ⟨p, h1, h2⟩
              have hby := bk.1 p0 hp0
              rw [ep0] at hby
              rw [hby]
              repeat walk_at "st"
              refine ⟨p6, rfl, k_dget1E (.inl ht) ?_⟩
              repeat walk_at "st"
              refine ⟨_, DGet.rd (k := Sum.inl x) (.inl ht), ?_⟩
              rw [th.none hxT]
              repeat walk_at "st"
              rw [decide_eq_false (show ¬ (none : Option V).getD .non = V.int y from fun z => nomatch z)]
              repeat walk_at "st"
              refine no _ (e02.trans ex) fun ⟨R, I⟩ => ?_
              have r1 := AI.rl R I (x, y) (List.mem_of_getElem? hp)
              have r2 := AI.rt R I p0 hp0
              rw [ep0] at r2
              exact hxT p0 hp0 (I.inj _ _ _ r2 r1)
          · obtain ⟨p0, hp0, ep0⟩ : ∃ p ∈ T, p.1 = x := Classical.byContradiction fun z => hxT fun p h1 h2 => z ⟨p, h1, h2⟩
            have htx := th.1 p0 hp0
            rw [ep0] at htx
            rw [htx]
            repeat walk_at "st"
            refine ⟨p6, rfl, k_dget1E (.inl ht) ?_⟩
            repeat walk_at "st"
            refine ⟨_, DGet.rd (k := Sum.inl x) (.inl ht), ?_⟩
            rw [htx]
            repeat walk_at "st"
            by_cases hpy : p0.2 = y
            · rw [decide_eq_true (show (some (V.int p0.2)).getD .non = V.int y by rw [hpy]; rfl)]
              repeat walk_at "st"
              refine ⟨p7, rfl, k_dget1E (.inl hb) ?_⟩
              repeat walk_at "st"
              have hby := bk.1 p0 hp0
              rw [hpy, ep0] at hby
              refine ⟨_, DGet.rd (k := Sum.inl y) (.inl hb), ?_⟩
              rw [hby]
              repeat walk_at "st"
              rw [decide_eq_true (show (some (V.int x)).getD .non = V.int x from rfl)]
              repeat walk_at "st"
              exact ⟨vs, P, T, kt, kb, _, _, _, _, _, _, _, rfl, ex, hD', pv, ht, hb, th, bk, AI.stay fun p h => (by rw [hp] at h; cases h; rw [← hpy, ← ep0]; exact hp0), by omega⟩
            · rw [decide_eq_false (show ¬ (some (V.int p0.2)).getD .non = V.int y from fun z => hpy (V.int.inj z))]
              repeat walk_at "st"
              refine no _ (e02.trans ex) fun ⟨R, I⟩ => ?_
              have r1 := AI.rl R I (x, y) (List.mem_of_getElem? hp)
              have r2 := AI.rt R I p0 hp0
              rw [ep0] at r2
              exact hpy (I.fn _ _ _ r2 r1)
        · rw [if_neg (show ¬ decide ((0 : Int) + (i : Int) < (vs.length : Int)) = true by rw [decide_eq_true_eq]; omega)]
          repeat walk_at "st"
          exact ⟨vs, P, T, kt, kb, _, _, _, _, _, _, _, rfl, ex, hD', pv, ht, hb, th, bk, AI.stay fun p h => absurd (List.getElem?_eq_some_iff.mp h).1 hik, by omega⟩
      · subst es
        have hPl := AI.len
        repeat walk_at "st"
        exact k _ true (e02.trans ex) ⟨fun _ => AI.yes (by omega) hnm, fun _ => rfl⟩
end


/-! ### _law_pair -/
theorem lost_nil {ns : List (Str × Int)} {cs : List Cell} {met : List Int} (K : Kept ns cs) (g : Good ns cs met) : lostL cs met = [] := by
  unfold lostL
  rw [List.filter_eq_nil_iff.mpr fun c hc h => (of_decide_eq_true h) ((g.iff (cell_mem K.co hc)).mpr (K.hr c hc))]
  rfl
/-- the dicts of a kept heap -/
structure Part (H : Hp) (a b : Addr) (ns : List (Str × Int)) (xs : List Cell) : Prop where
  n : DictN H a ns
  ni : ∀ n, n ∈ ns → NmIn n
  nl : ns.length ≤ 20
  c : DictC H b xs
  ci : ∀ c, c ∈ xs → CellIn c
  cl : xs.length ≤ 60
  ab : a ≠ b
theorem Part.ex {H H' : Hp} (e : Ex H H') {a b : Addr} {ns : List (Str × Int)} {xs : List Cell} (h : Part H a b ns xs) : Part H' a b ns xs := ⟨h.n.ex e, h.ni, h.nl, h.c.ex e, h.ci, h.cl, h.ab⟩
def AllR (ns : List (Str × Int)) (xs : List Cell) : Prop := ∀ c ∈ xs, Reach ns xs c.a
theorem made_kept {K : PySem.W.Frag} {H H' : Hp} {a b p : Addr} {ns ns' : List (Str × Int)} {xs cs : List Cell} (h : Part H a b ns xs) (r : AllR ns xs) (hA : HeapAt K H' p ns' cs) (hn : ∀ n, n ∈ ns' ↔ n ∈ ns) (hc : ∀ c, c ∈ cs ↔ c ∈ xs) : Kept ns' cs := by
  obtain ⟨_, _, _, _, _, A⟩ := hA
  obtain ⟨_, _, _, nd⟩ := h.c
  have e : ∀ z, cellOf xs z = cellOf cs z := fun z => ((rowAt_ext A.co.nd nd).mp hc (Sum.inl z)).symm
  exact ⟨A.co, A.no, fun c q => by have := (h.ci c ((hc c).mp q)).1.1; omega, fun c q => mark_one (h.ci c ((hc c).mp q)), fun c q => Reach.mono (fun n z => (hn n).mpr z) e (r c ((hc c).mp q)), fun c q => (h.ci c ((hc c).mp q)).2.2.2.2⟩
def spPair : Sp := fun vs H Q _ => ∃ (a b c d : Addr) (tu : Bool) (ns ms : List (Str × Int)) (xs ys : List Cell), vs = [.ref a, .ref b, .ref c, .ref d, .bl tu] ∧ Part H a b ns xs ∧ Part H c d ms ys ∧ a ≠ c ∧ AllR ns xs ∧ AllR ms ys ∧ ∀ H', Ex H H' → Q (.bl true) H'
section
variable {P : Program} {w : World} {K : PySem.W.Frag} {mg : Str → Option Value} {base : Heap}
theorem c_l_pair (Y : Ty P w K mg) : Cal P w K mg base CX0 10 "_law_pair" ["one", "cells", "two", "rows", "turned"] spPair := by
  have T := Y.T
  refine cal_mk T.D_l_pair T.m__law_pair sc_l_pair (fun _ _ _ _ _ _ us hl => match us, hl with | [_, _, _, _, _], _ => rfl) (fun vs H Q E h => ?_) (fun f cdv A outer s H vs Q E hr h => ?_)
  · obtain ⟨a, b, c, d, tu, ns, ms, xs, ys, rfl, _⟩ := h
    rfl
  · obtain ⟨a, b, c, d, tu, ns, ms, xs, ys, rfl, h1, h2, hac, r1, r2, k⟩ := h
    refine ⟨_, ((pss_cons (ps_set (i := 5) sc_l_pair.nd rfl (Or.inl rfl) (by exact pe_cal (c_l_made T) hr (by decide) rfl pass0 (pa_cons (pv 0) (pa_cons (pv 1) (pa_cons (pv 4) pa_nil)))))
  (pss_cons (ps_set (i := 6) sc_l_pair.nd rfl (Or.inl rfl) (by exact pe_cal (c_l_made T) hr (by decide) rfl pass0 (pa_cons (pv 2) (pa_cons (pv 3) (pa_cons (pe_not (pv 4)) pa_nil)))))
  (pss_cons (ps_set (i := 7) sc_l_pair.nd rfl (Or.inl rfl) (by exact pe_cal (c_l_alike T) hr (by decide) rfl pass0 (pa_cons (pv 0) (pa_cons (pv 1) (pa_cons (pv 2) (pa_cons (pv 3) pa_nil))))))
  (pss_cons (ps_set (i := 8) sc_l_pair.nd rfl (Or.inl rfl) (pe_tup (pa_cons (by exact pe_cal (c_alike Y) hr (by decide) rfl passF (pa_cons (pv 5) (pa_cons (pv 6) pa_nil))) (pa_cons (by exact pe_cal (c_alike Y) hr (by decide) rfl passF (pa_cons (pv 6) (pa_cons (pv 5) pa_nil))) pa_nil))))
  (pss_cons (ps_if (pt_not (pt_val (by exact pe_cal (c_l_same T) hr (by decide) rfl pass0 (pa_cons (pv 8) (pa_cons (pe_tup (pa_cons (pv 7) (pa_cons (pv 7) pa_nil))) pa_nil))))) (pss_one (ps_ret pe_bl)) pss_nil)
  (pss_cons (ps_par (i := 9) (j := 10) rfl sc_l_pair.nd rfl rfl (by decide) rfl rfl (pa_cons (by exact pe_cal (c_written Y) hr (by decide) rfl passF (pa_cons (pv 5) pa_nil)) (pa_cons (by exact pe_cal (c_written Y) hr (by decide) rfl passF (pa_cons (pv 6) pa_nil)) pa_nil)) rfl)
  (pss_cons (ps_if (pt_not (pt_val (by exact pe_cal (c_l_same T) hr (by decide) rfl pass0 (pa_cons (pe_tup (pa_cons (pe_cmpR (op_pairEq (hu65 hr) (me_Figure_eq Y) hr (by decide) pass0) (pv 9) (pv 10) (nomark _)) (pa_cons (pe_cmpR (op_pairNe (hu65 hr) (me_Figure_eq Y) hr (by decide) pass0) (pv 9) (pv 10) (nomark _)) pa_nil))) (pa_cons (pe_tup (pa_cons (pv 7) (pa_cons (pe_not (pv 7)) pa_nil))) pa_nil))))) (pss_one (ps_ret pe_bl)) pss_nil)
  (pss_one (ps_ret (pe_and (by exact pe_cal (c_l_heap Y) hr (by decide) rfl pass0 (pa_cons (pv 5) (pa_cons (pv 0) (pa_cons (pv 1) pa_nil)))) (pe_one (by exact pe_cal (c_l_heap Y) hr (by decide) rfl pass0 (pa_cons (pv 6) (pa_cons (pv 2) (pa_cons (pv 3) pa_nil)))))))))))))))), ?_⟩
    dsimp only [cxOf, Cx.nox]
    repeat walk_at "st"
    refine ⟨a, b, tu, ns, xs, rfl, h1.n, h1.ni, h1.nl, h1.c, h1.ci, h1.cl, h1.ab, fun H1 p ns' cs e1 hA hn hc => ?_⟩
    repeat walk_at "st"
    refine ⟨c, d, !tu, ms, ys, rfl, h2.n.ex e1, h2.ni, h2.nl, h2.c.ex e1, h2.ci, h2.cl, h2.ab, fun H2 q ms' ds e2 hB hm hd => ?_⟩
    have e02 := e1.trans e2
    have K1 := made_kept h1 r1 hA hn hc
    have K2 := made_kept h2 r2 hB hm hd
    have hA2 := hA.ex e2
    have i1 : ∀ c ∈ cs, CellIn c := fun c z => h1.ci c ((hc c).mp z)
    have i2 : ∀ c ∈ ds, CellIn c := fun c z => h2.ci c ((hd c).mp z)
    repeat walk_at "st"
    refine ⟨a, b, c, d, ns', ns, ms', ms, cs, xs, ds, ys, rfl, h1.n.ex e02, h1.c.ex e02, h2.n.ex e02, h2.c.ex e02, hac, h1.nl, h2.nl, h1.cl, h2.cl, hn, hm, hc, hd, K1, K2, fun n z => (h1.ni n z).2.2.2.2, fun n z => (h2.ni n z).2.2.2.2, fun H3 r e3 hr3 => ?_⟩
    have e03 := e02.trans e3
    repeat walk_at "st"
    refine ⟨p, q, ns', ms', cs, ds, rfl, hA2.ex e3, hB.ex e3, i1, i2, fun met mex g1 l1 g2 l2 H4 r4 e4 hr4 => ?_, fun met x rr g1 l1 => (by rw [lost_nil K1 g1] at l1; cases l1), fun met mex x rr _ _ g2 l2 => (by rw [lost_nil K2 g2] at l2; cases l2)⟩
    have er4 : r4 = r := Bool.eq_iff_iff.mpr (hr4.trans hr3.symm)
    subst er4
    have e04 := e03.trans e4
    have e24 := e3.trans e4
    repeat walk_at "st"
    refine ⟨q, p, ms', ns', ds, cs, rfl, hB.ex e24, hA2.ex e24, i2, i1, fun met mex g1 l1 g2 l2 H5 r5 e5 hr5 => ?_, fun met x rr g1 l1 => (by rw [lost_nil K2 g1] at l1; cases l1), fun met mex x rr _ _ g2 l2 => (by rw [lost_nil K1 g2] at l2; cases l2)⟩
    have er5 : r5 = r4 := Bool.eq_iff_iff.mpr (hr5.trans (⟨fun ⟨R, I⟩ => ⟨_, I.symm⟩, fun ⟨R, I⟩ => ⟨_, I.symm⟩⟩ : Alike ms' ns' ds cs ↔ Alike ns' ms' cs ds) |>.trans hr3.symm)
    subst er5
    have e05 := e04.trans e5
    have e25 := e24.trans e5
    repeat walk_at "st"
    intro t6 H6 ht6 e6 h6
    repeat walk_at "st"
    intro t7 H7 ht7 e7 h7
    repeat walk_at "st"
    refine ⟨_, _, .tuple [.bool r5, .bool r5], rfl, .tup (.inl (.inl (e7.get h6))) (.cons (.bl _) (.cons (.bl _) .nil)), .tup (.inl (.inl h7)) (.cons (.bl _) (.cons (.bl _) .nil)), by simp [wt, wts], fun H8 e8 => ?_⟩
    have e58 := e6.trans (e7.trans e8)
    have e08 := e05.trans e58
    have e28 := e25.trans e58
    repeat walk_at "st"
    refine ⟨p, ns', cs, rfl, hA2.ex e28, hcs_of i1, fun met gm hlo H9 t9 f9 u9 k9 e9 h9 hf9 dk9 hF9 hW9 => ?_, fun met x r g1 l1 => (by rw [lost_nil K1 g1] at l1; cases l1)⟩
    repeat walk_at "st"
    refine ⟨q, ms', ds, rfl, (hB.ex e28).ex e9, hcs_of i2, fun mex gx hlx H10 t10 f10 u10 k10 e10 h10 hf10 dk10 hF10 hW10 => ?_, fun met x r g1 l1 => (by rw [lost_nil K2 g1] at l1; cases l1)⟩
    have w9 : WPair K H8 H9 t9 ns' cs := ⟨f9, u9, k9, h9, hf9, dk9, hF9, hW9⟩
    have w10 : WPair K H9 H10 t10 ms' ds := ⟨f10, u10, k10, h10, hf10, dk10, hF10, hW10⟩
    repeat walk_at "st"
    refine k_pairF (ng := false) Y K1 K2 w9 e10 w10 fun H11 r11 e11 hr11 => ?_
    have er11 : r11 = r5 := Bool.eq_iff_iff.mpr (hr11.trans hr3.symm)
    subst er11
    repeat walk_at "st"
    refine k_pairF (ng := true) Y K1 K2 w9 (e10.trans e11) (w10.ex e11) fun H12 r12 e12 hr12 => ?_
    have er12 : r12 = r11 := Bool.eq_iff_iff.mpr (hr12.trans hr3.symm)
    subst er12
    repeat walk_at "st"
    intro t13 H13 ht13 e13 h13
    repeat walk_at "st"
    intro t14 H14 ht14 e14 h14
    repeat walk_at "st"
    refine ⟨_, _, .tuple [.bool r12, .bool (!r12)], rfl, .tup (.inl (.inl (e14.get h13))) (.cons (.bl _) (.cons (.bl _) .nil)), .tup (.inl (.inl h14)) (.cons (.bl _) (.cons (.bl _) .nil)), by simp [wt, wts], fun H15 e15 => ?_⟩
    have e815 := e9.trans (e10.trans (e11.trans (e12.trans (e13.trans (e14.trans e15)))))
    have e015 := e08.trans e815
    have e215 := e28.trans e815
    repeat walk_at "st"
    refine ⟨p, a, b, ns', ns, cs, xs, rfl, hA2.ex e215, h1.n.ex e015, h1.c.ex e015, h1.nl, h1.cl, hn, hc, fun H16 e16 => ?_⟩
    repeat walk_at "st"
    refine ⟨q, c, d, ms', ms, ds, ys, rfl, (hB.ex e215).ex e16, (h2.n.ex e015).ex e16, (h2.c.ex e015).ex e16, h2.nl, h2.cl, hm, hd, fun H17 e17 => ?_⟩
    repeat walk_at "st"
    exact k _ (e015.trans (e16.trans e17))
end


/-! ### _law_bent -/
theorem kvN_drop (ns : List (Str × Int)) (x : Str) : dropK (kvN ns) (Sum.inr x) = kvN (ns.filter fun n => decide (n.1 ≠ x)) := by
  unfold dropK kvN
  rw [List.filter_map]
  congr 1
  refine List.filter_congr fun n _ => ?_
  exact decide_eq_decide.mpr (not_congr ⟨fun z => Sum.inr.inj z, fun z => congrArg Sum.inr z⟩)
def setN (ns : List (Str × Int)) (x : Str) (v : Int) : List (Str × Int) := ns.map fun n => if n.1 = x then (n.1, v) else n
theorem setN_keys (ns : List (Str × Int)) (x : Str) (v : Int) : (setN ns x v).map (·.1) = ns.map (·.1) := by
  unfold setN
  rw [List.map_map]
  refine List.map_congr_left fun n _ => ?_
  show (if n.1 = x then (n.1, v) else n).1 = n.1
  split <;> rfl
theorem kvN_set {ns : List (Str × Int)} {x : Str} {v w : Int} (h : valV (kvN ns) (Sum.inr x) = some (.int w)) : putK (kvN ns) (Sum.inr x) (.int v) = kvN (setN ns x v) := by
  unfold putK
  rw [valV_any, h, if_pos (show (some (V.int w)).isSome = true from rfl)]
  unfold kvN setN
  rw [List.map_map, List.map_map]
  refine List.map_congr_left fun n _ => ?_
  show (if (Sum.inr n.1 : L2.Key) = Sum.inr x then ((Sum.inr n.1 : L2.Key), V.int v) else (Sum.inr n.1, V.int n.2)) = (Sum.inr (if n.1 = x then (n.1, v) else n).1, V.int (if n.1 = x then (n.1, v) else n).2)
  by_cases e : n.1 = x
  · rw [if_pos (by rw [e]), if_pos e]
  · rw [if_neg (fun z => e (Sum.inr.inj z)), if_neg e]
/-- more[name] = value -/
theorem put_names {ms : List (Str × Int)} {z : Str} {v : Int} (nd : (ms.map (·.1)).Nodup) (hi : ∀ n, n ∈ ms → NmIn n) (hz : NmIn (z, v)) : ∃ mo : List (Str × Int), putK (kvN ms) (Sum.inr z) (.int v) = kvN mo ∧ (mo.map (·.1)).Nodup ∧ (∀ n, n ∈ mo ↔ n = (z, v) ∨ (n ∈ ms ∧ n.1 ≠ z)) ∧ mo.length ≤ ms.length + 1 ∧ ∀ n, n ∈ mo → NmIn n := by
  have key : ∀ mo : List (Str × Int), (∀ n, n ∈ mo ↔ n = (z, v) ∨ (n ∈ ms ∧ n.1 ≠ z)) → ∀ n, n ∈ mo → NmIn n := fun mo h n hn => by
    rcases (h n).mp hn with rfl | ⟨q, _⟩
    · exact hz
    · exact hi n q
  by_cases hk : z ∈ ms.map (·.1)
  · obtain ⟨n, hn, rfl⟩ := List.mem_map.mp hk
    have hm : ∀ k, k ∈ setN ms n.1 v ↔ k = (n.1, v) ∨ (k ∈ ms ∧ k.1 ≠ n.1) := fun k => by
      unfold setN
      rw [List.mem_map]
      constructor
      · rintro ⟨m, hm, rfl⟩
        by_cases e : m.1 = n.1
        · rw [if_pos e]
          exact .inl (by rw [e])
        · rw [if_neg e]
          exact .inr ⟨hm, e⟩
      · rintro (rfl | ⟨h1, h2⟩)
        · exact ⟨n, hn, by rw [if_pos rfl]⟩
        · exact ⟨k, h1, by rw [if_neg h2]⟩
    exact ⟨setN ms n.1 v, kvN_set (kvN_some nd hn), by rw [setN_keys]; exact nd, hm, by unfold setN; rw [List.length_map]; omega, key _ hm⟩
  · have hm : ∀ k, k ∈ ms ++ [(z, v)] ↔ k = (z, v) ∨ (k ∈ ms ∧ k.1 ≠ z) := fun k => by
      rw [List.mem_append, List.mem_singleton]
      constructor
      · rintro (h | h)
        · exact .inr ⟨h, fun e => hk (List.mem_map.mpr ⟨k, h, e⟩)⟩
        · exact .inl h
      · rintro (h | ⟨h, _⟩)
        · exact .inr h
        · exact .inl h
    refine ⟨ms ++ [(z, v)], kvN_put (n := (z, v)) hk, ?_, hm, by rw [List.length_append]; simp, key _ hm⟩
    rw [List.map_append]
    refine List.nodup_append.mpr ⟨nd, by simp, fun x hx y hy e => ?_⟩
    have : y = z := by simpa using hy
    exact hk (this ▸ e ▸ hx)
theorem putR_in {xs : List Cell} {c' : Cell} {p : Cell → Prop} (h : ∀ c, c ∈ xs → p c) (hp : p c') : ∀ c, c ∈ putR kC xs c' → p c := fun x hx => by
  unfold putR at hx
  split at hx
  · obtain ⟨y, hy, e⟩ := List.mem_map.mp hx
    split at e
    · rw [← e]; exact hp
    · rw [← e]; exact h y hy
  · rcases List.mem_append.mp hx with q | q
    · exact h x q
    · rw [List.mem_singleton.mp q]; exact hp
theorem cut_mem {xs : List V} {lo hi : Option Int} {v : V} (h : v ∈ cutV xs lo hi) : v ∈ xs := by
  unfold cutV at h
  exact List.mem_of_mem_drop (List.mem_of_mem_take h)
theorem k_orB {t u : TT} {σ : L2.St} {H : Hp} {b c : Bool} {R : Bool → Hp → Prop} (ht : ∀ R' : Bool → Hp → Prop, R' b H → t σ H R') (hu : ∀ R' : Bool → Hp → Prop, R' c H → u σ H R') (q : R (b || c) H) : tOr t u σ H R := by
  refine ht _ ?_
  cases b with
  | true => exact q
  | false => exact hu _ q
theorem if_join {c : Prop} [Decidable c] {X Y : TS} {D : Ends} {σ : L2.St} {H : Hp} (J : L2.St → Prop) (q : ∀ σ', J σ' → D.nx σ' H) (h : ∀ D' : Ends, (∀ σ', J σ' → D'.nx σ' H) → if c then X D' σ H else Y D' σ H) : if c then X D σ H else Y D σ H := h D q
theorem abc_index (m : Str) (h : inV (.str m) (marks.map V.str) = true) : ∃ (i : Nat) (c : Nat), Builtin.Str.occurrences "abc" m 0 ("abc" : Str).length 1 = [i] ∧ atI ("bca" : Str).cps.toList (i : Int) = some c ∧ inV (.str ⟨#[c]⟩) (marks.map V.str) = true ∧ PyData.strOk ⟨#[c]⟩ = true := by
  rw [inV_str] at h
  have : ∀ z ∈ marks, ∃ (i : Nat) (c : Nat), Builtin.Str.occurrences "abc" z 0 ("abc" : Str).length 1 = [i] ∧ atI ("bca" : Str).cps.toList (i : Int) = some c ∧ inV (.str ⟨#[c]⟩) (marks.map V.str) = true ∧ PyData.strOk ⟨#[c]⟩ = true := by
    intro z hz
    have hz : z = "a" ∨ z = "b" ∨ z = "c" := by simpa [marks] using hz
    rcases hz with rfl | rfl | rfl
    · exact ⟨0, 98, by decide +kernel, by decide +kernel, by decide +kernel, by decide +kernel⟩
    · exact ⟨1, 99, by decide +kernel, by decide +kernel, by decide +kernel, by decide +kernel⟩
    · exact ⟨2, 97, by decide +kernel, by decide +kernel, by decide +kernel, by decide +kernel⟩
  exact this m (of_decide_eq_true h)
theorem q_in {i : Int} (h0 : 0 ≤ i) (h1 : i ≤ 9999) : NmIn (("q" : Str), i) := ⟨show nameB "q" = true by decide +kernel, show ("q" : Str).length ≤ 100 by decide +kernel, h0, h1, show PyData.strOk "q" = true by decide +kernel⟩
theorem kvN_len (ns : List (Str × Int)) : (kvN ns).length = ns.length := List.length_map _
theorem k_par3 {i j l : Nat} {ta : TA} {D : Ends} {σ : L2.St} {H : Hp} (h : ta σ H fun vs H1 => ∃ u v w, vs = [u, v, w] ∧ D.nx (((σ.set i (some u)).set j (some v)).set l (some w)) H1) : tPar3 i j l ta D σ H := h
def spBent : Sp := fun vs H Q _ => ∃ (a b l : Addr) (ki pi : Int) (ns : List (Str × Int)) (xs : List Cell) (ps : List Int), vs = [.ref a, .ref b, .ref l, .int ki, .int pi] ∧ Part H a b ns xs ∧ ns.length ≤ 10 ∧ xs.length ≤ 59 ∧ H l = some (.lst (ps.map V.int)) ∧ ps ≠ [] ∧ ps.length ≤ 100 ∧ (∀ q ∈ ps, 0 ≤ q ∧ q ≤ 9999) ∧
  ∀ H' t a' b' ns' xs', Ex H H' → H' t = some (.tup [.ref a', .ref b']) → H a' = none → H b' = none → Part H' a' b' ns' xs' → Q (.ref t) H'
section
variable {P : Program} {w : World} {K : PySem.W.Frag} {mg : Str → Option Value} {base : Heap}
theorem c_l_bent (T : Tx w K mg) : Cal P w K mg base CX0 1 "_law_bent" ["names", "cells", "places", "kind", "pick"] spBent := by
  refine cal_mk T.D_l_bent T.m__law_bent sc_l_bent (fun _ _ _ _ _ _ us hl => match us, hl with | [_, _, _, _, _], _ => rfl) (fun vs H Q E h => ?_) (fun f cdv A outer s H vs Q E hr h => ?_)
  · obtain ⟨a, b, l, ki, pi, ns, xs, ps, rfl, _⟩ := h
    rfl
  · obtain ⟨a, b, l, ki, pi, ns, xs, ps, rfl, hP, hn10, hx59, hl, hps, hpl, hpi, k⟩ := h
    have hu := hu_of hr
    refine ⟨_, ((pss_cons (ps_par3 (i := 0) (j := 1) (l := 5) rfl sc_l_bent.nd rfl rfl rfl (by decide) (by decide) (by decide) rfl rfl rfl (pa_cons (pe_callTy cr_dictOf rfl T.f_dict (by decide +kernel) (pa_cons (pv 0) pa_nil)) (pa_cons (pe_callTy cr_dictOf rfl T.f_dict (by decide +kernel) (pa_cons (pv 1) pa_nil)) (pa_cons (pe_callB (call_sortedD rfl) rfl T.f_sorted (by decide +kernel) (pa_cons (pv 0) pa_nil)) pa_nil))) rfl)
  (pss_cons (ps_set (i := 6) sc_l_bent.nd rfl (Or.inl rfl) (pe_ix (ix_listK (K := K) rfl) (pv 2) (pe_op o_mod (pe_callTy cr_int rfl T.f_int (by decide +kernel) (pa_cons (pv 4) pa_nil)) (pe_callB cr_len rfl T.f_len (by decide +kernel) (pa_cons (pv 2) pa_nil))) (fun _ _ => rfl)))
  (pss_cons (ps_if (PW.pt (pw_or (pt_cmpR o_lt (pv 3) pe_int (nomark _)) (pw_or1 (pt_cmpR op_eq (pv 3) pe_int (nomark _))))) (pss_one (ps_for PassesOwn.never rfl (pi_list (pe_slice sl_list (pe_slice sl_list (pe_callB (call_sortedDI rfl) rfl T.f_sorted (by decide +kernel) (pa_cons (pv 1) pa_nil)) (po_some (pe_op o_mod (pe_callTy cr_int rfl T.f_int (by decide +kernel) (pa_cons (pv 4) pa_nil)) (pe_callB (cr_max2 rfl) rfl T.f_max (by decide +kernel) (pa_cons pe_int (pa_cons (pe_callB cr_lenD rfl T.f_len (by decide +kernel) (pa_cons (pv 1) pa_nil)) pa_nil))))) po_none) po_none (po_some pe_int))) (pg_name (i := 7) sc_l_bent.nd rfl (Or.inl rfl)) (pss_cons (ps_asg (pe_dget hu (pv 1) (pv 7) (fun _ _ => rfl)) (pg_tup (n := 3) rfl (pgs_cons (pg_name (i := 8) sc_l_bent.nd rfl (Or.inl rfl)) (pgs_cons (pg_name (i := 9) sc_l_bent.nd rfl (Or.inl rfl)) (pgs_cons (pg_name (i := 10) sc_l_bent.nd rfl (Or.inl rfl)) pgs_nil)))))
  (pss_cons (ps_if (pt_cmpR op_eq (pv 3) pe_int (nomark _)) (pss_one (ps_set (i := 8) sc_l_bent.nd rfl (Or.inl rfl) (pe_ix ix_str pe_str (pe_bm PySem.F.plainAttrs_str PySem.F.slot_str_index PySem.F.type_str_index mt_sidx pe_str (pa_cons (pv 8) pa_nil)) (fun _ _ => rfl)))) pss_nil)
  (pss_cons (ps_if (pt_cmpR op_eq (pv 3) pe_int (nomark _)) (pss_one (ps_set (i := 9) sc_l_bent.nd rfl (Or.inl rfl) (pv 6))) pss_nil)
  (pss_cons (ps_if (pt_cmpR op_eq (pv 3) pe_int (nomark _)) (pss_one (ps_set (i := 10) sc_l_bent.nd rfl (Or.inl rfl) (pe_op o_add (pe_op o_mod (pe_callTy cr_int rfl T.f_int (by decide +kernel) (pa_cons (pv 10) pa_nil)) pe_int) pe_int))) pss_nil)
  (pss_cons (ps_dput hu (pv 1) (pv 7) (pe_tup (pa_cons (pv 8) (pa_cons (pv 9) (pa_cons (pv 10) pa_nil)))) rfl)
  (pss_one (ps_if (pt_cmpR op_eq (pv 3) pe_int (nomark _)) (pss_one (ps_expr (pe_dpop1 (pv 1) (pv 7) ⟨rfl, rfl, rfl, rfl⟩))) pss_nil))))))))) (pss_one (ps_if (pt_cmpR o_gt (pe_callB cr_len rfl T.f_len (by decide +kernel) (pa_cons (pv 5) pa_nil)) pe_int (nomark _)) (pss_cons (ps_par (i := 11) (j := 12) rfl sc_l_bent.nd rfl rfl (by decide) rfl rfl (pa_cons (pe_ix (ix_listK (K := K) rfl) (pv 5) (pe_op o_mod (pe_callTy cr_int rfl T.f_int (by decide +kernel) (pa_cons (pv 4) pa_nil)) (pe_callB cr_len rfl T.f_len (by decide +kernel) (pa_cons (pv 5) pa_nil))) (fun _ _ => rfl)) (pa_cons (pe_ix (ix_listK (K := K) rfl) (pv 5) pe_int (fun _ _ => rfl)) pa_nil)) rfl)
  (pss_one (ps_if (pt_cmpR op_eq (pv 3) pe_int (nomark _)) (pss_one (ps_dput hu (pv 0) (pv 11) (pv 6) rfl)) (pss_one (ps_if (pt_cmpR op_eq (pv 3) pe_int (nomark _)) (pss_cons (ps_set (i := 13) sc_l_bent.nd rfl (Or.inl rfl) (pe_dpop1 (pv 0) (pv 11) ⟨rfl, rfl, rfl, rfl⟩))
  (pss_one (ps_dput hu (pv 0) pe_str (pv 13) rfl))) (pss_cons (ps_set (i := 13) sc_l_bent.nd rfl (Or.inl rfl) (pe_dget hu (pv 0) (pv 11) (fun _ _ => rfl)))
  (pss_cons (ps_dput hu (pv 0) (pv 11) (pe_dget hu (pv 0) (pv 12) (fun _ _ => rfl)) rfl)
  (pss_one (ps_dput hu (pv 0) (pv 12) (pv 13) rfl))))))))) pss_nil)))
  (pss_one (ps_ret (pe_tup (pa_cons (pv 0) (pa_cons (pv 1) pa_nil))))))))), ?_⟩
    dsimp only [cxOf, Cx.nox]
    refine k_seq ?_
    refine k_par3 ?_
    repeat walk_at "st"
    refine ⟨a, kvN ns, rfl, .inl hP.n.1, fun na hna => ?_⟩
    have e1 : Ex H (upd H na (.dK (kvN ns))) := Ex.new hna
    have ha1 : upd H na (.dK (kvN ns)) na = some (.dK (kvN ns)) := upd_same
    generalize upd H na (.dK (kvN ns)) = H1 at e1 ha1
    obtain ⟨kvs, hk, hrw, nd⟩ := hP.c
    have hkl := rows_len hrw
    have hnl := hP.nl
    have hcl := hP.cl
    repeat walk_at "st"
    refine ⟨b, kvs, rfl, .inl (e1.get hk), fun nb hnb => ?_⟩
    have e2 : Ex H1 (upd H1 nb (.dK kvs)) := Ex.new hnb
    have hb2 : upd H1 nb (.dK kvs) nb = some (.dK kvs) := upd_same
    generalize upd H1 nb (.dK kvs) = H2 at e2 hb2
    have kN : ∀ l : List (Str × Int), (kvN l).map (·.1) = (l.map (·.1)).map Sum.inr := fun l => by unfold kvN; rw [List.map_map, List.map_map]; rfl
    have e02 := e1.trans e2
    repeat walk_at "st"
    refine ⟨a, kvN ns, ns.map (·.1), rfl, .inl (e02.get hP.n.1), kN ns, by rw [List.length_map]; omega, fun ws wa pmw sow hwa => ?_⟩
    have e3 : Ex H2 (upd H2 wa (.lst (ws.map V.str))) := Ex.new hwa
    have hw3 : upd H2 wa (.lst (ws.map V.str)) wa = some (.lst (ws.map V.str)) := upd_same
    generalize upd H2 wa (.lst (ws.map V.str)) = H3 at e3 hw3
    have e03 := e02.trans e3
    have ha3 := e3.get (e2.get ha1)
    have hb3 := e3.get hb2
    have hl3 := e03.get hl
    have nab : na ≠ nb := fun z => by rw [← z, ha1] at hnb; cases hnb
    have nbH : H nb = none := e1.none hnb
    have plen : 0 < ps.length := by cases ps with | nil => exact absurd rfl hps | cons => simp
    repeat walk_at "st"
    refine ⟨_, _, _, rfl, ?_⟩
    repeat walk_at "st"
    have plen' : ((ps.map V.int).length : Int) = ps.length := by rw [List.length_map]
    have hm0 := Int.emod_nonneg pi (show ((ps.map V.int).length : Int) ≠ 0 by omega)
    have hm1 := Int.emod_lt_of_pos pi (show (0 : Int) < ((ps.map V.int).length : Int) by omega)
    obtain ⟨g, hg⟩ : ∃ g, ps[(pi % ((ps.map V.int).length : Int)).toNat]? = some g := ⟨_, List.getElem?_eq_getElem (by omega)⟩
    have hgI := hpi g (List.mem_of_getElem? hg)
    refine k_mod (by omega) ?_
    refine k_ixL (.inl (.inl hl3)) (v := .int g) (atI_of (by omega) (by rw [List.getElem?_map, hg]; rfl)) ?_
    refine k_name ?_
    have fin : ∀ H' ns' xs', Ex H H' → Part H' na nb ns' xs' → ∀ t Hf, H' t = none → Ex H' Hf → Hf t = some (.tup [.ref na, .ref nb]) → Q (.ref t) Hf := fun H' ns' xs' e h t Hf _ ef ht => k Hf t na nb ns' xs' (e.trans ef) ht hna nbH (h.ex ef)
    dsimp only
    refine k_seq ?_
    dsimp only
    refine k_if ?_
    refine k_orB (b := decide (ki < 4)) (c := decide (ki = 7)) (fun R' h => ?_) (fun R' h => ?_) ?_
    · repeat walk_at "st"
      exact h
    · repeat walk_at "st"
      rw [show decide (V.int ki = V.int 7) = decide (ki = 7) from decide_eq_decide.mpr ⟨fun z => V.int.inj z, fun z => congrArg V.int z⟩]
      exact h
    by_cases hb : (decide (ki < 4) || decide (ki = 7)) = true
    · rw [if_pos hb]
      have hkeys : kvs.map (·.1) = (xs.map (·.a)).map Sum.inl := by
        rw [hrw.keys, List.map_map]
        rfl
      repeat walk_at "st"
      refine ⟨nb, kvs, xs.map (·.a), rfl, .inl hb3, hkeys, by rw [List.length_map]; omega, fun ys pz pm so hpz => ?_⟩
      have e4 : Ex H3 (upd H3 pz (.lst (ys.map V.int))) := Ex.new hpz
      have h4 : upd H3 pz (.lst (ys.map V.int)) pz = some (.lst (ys.map V.int)) := upd_same
      generalize upd H3 pz (.lst (ys.map V.int)) = H4 at e4 h4
      have hb4 := e4.get hb3
      repeat walk_at "st"
      refine k_slL (.inl (.inl h4)) fun l5 H5 hl5 e5 h5 => ?_
      repeat walk_at "st"
      refine k_slL (.inl (.inl h5)) fun l6 H6 hl6 e6 h6 => ?_
      generalize hzl : cutV (cutV (ys.map V.int) _ none) none (some 1) = zl at h6
      have zlen : zl.length ≤ 1 := by
        rw [← hzl]
        unfold cutV
        rw [List.length_take]
        have : ∀ n : Nat, HT.sIx n n (some 1) - HT.sIx n 0 none ≤ 1 := fun n => by unfold HT.sIx; dsimp only; split <;> omega
        exact Nat.le_trans (Nat.min_le_left _ _) (this _)
      have zin : ∀ v ∈ zl, ∃ c ∈ xs, v = .int c.a := fun v hv => by
        rw [← hzl] at hv
        obtain ⟨a, ha, e⟩ := List.mem_map.mp (cut_mem (cut_mem hv))
        obtain ⟨c, hc, rfl⟩ := List.mem_map.mp (pm.mem_iff.mp ha)
        exact ⟨c, hc, e.symm⟩
      clear hzl
      have e36 := e4.trans (e5.trans e6)
      have e06 := e03.trans e36
      have hb6 := e36.get hb3
      have ha6 := e36.get ha3
      have hrw6 : RowsOf H6 kvs xs := RowsK.ex TRow_ex e06 hrw
      have n6b : l6 ≠ nb := fun z => by rw [z, (e4.trans e5).get hb3] at hl6; cases hl6
      repeat walk_at "st"
      refine for_it (walk_list (xs := zl)) (fun i σ' H' => ∃ (v7 v8 v9 v10 : Option V) (kvr : List (L2.Key × V)) (zs : List Cell), σ' = [some (.ref na), some (.ref nb), some (.ref l), some (.int ki), some (.int pi), some (.ref wa), some (.int g), v7, v8, v9, v10, none, none, none] ∧ ExB nb H6 H' ∧ H' nb = some (.dK kvr) ∧ RowsOf H' kvr zs ∧ (zs.map kC).Nodup ∧ (∀ c ∈ zs, CellIn c) ∧ zs.length ≤ 60 ∧ (i = 0 → kvr = kvs ∧ zs = xs)) ⟨_, _, _, _, kvs, xs, rfl, ExB.of (Ex.refl _), hb6, hrw6, nd, hP.ci, hP.cl, fun _ => ⟨rfl, rfl⟩⟩ (fun i σ' H' _ ⟨_, _, _, _, _, _, _, b, _⟩ => .inl (.inl (b _ _ n6b h6))) (fun i x σ' Hx H7 hi ⟨v7, v8, v9, v10, kvr, zs, es, b7, h7, R7, nd7, ci7, ln7, z7⟩ y => ?_) (fun σ' H7 ⟨v7, v8, v9, v10, kvr, zs, es, b7, h7, R7, nd7, ci7, ln7, z7⟩ => ?_)
      · subst es
        obtain ⟨rfl, y⟩ := y
        obtain ⟨rfl, rfl⟩ := z7 (by omega)
        obtain ⟨c, hc, rfl⟩ := zin x (List.mem_of_getElem? y)
        have hcI := hP.ci c hc
        have hat := R7.val (kC c)
        rw [rowAt_mem nd hc] at hat
        obtain ⟨vx, hv, t, rfl, ht⟩ := hat
        unfold rowT at ht
        repeat walk_at "st"
        refine k_dgetE (k := kC c) rfl (.inl h7) hv ?_
        repeat walk_at "st"
        refine if_join (fun σ' => ∃ m', inV (.str m') (marks.map V.str) = true ∧ PyData.strOk m' = true ∧ σ' = [some (.ref na), some (.ref nb), some (.ref l), some (.int ki), some (.int pi), some (.ref wa), some (.int g), some (.int c.a), some (.str m'), some (.int c.l), some (.int c.s), none, none, none]) (fun σ' ⟨m', hm1, hm2, es⟩ => ?_) (fun D' q => ?_)
        rotate_left
        · by_cases h1 : V.int ki = V.int 1
          · rw [if_pos (decide_eq_true h1)]
            obtain ⟨ix, ch, hoc, hch, hci1, hci2⟩ := abc_index c.m hcI.2.1
            repeat walk_at "st"
            refine ⟨by first | trivial | rfl | exact ⟨_, rfl⟩, ?_⟩
            repeat walk_at "st"
            refine ⟨_, _, ix, [], rfl, rfl, hoc, ?_⟩
            refine ⟨"bca", _, ch, rfl, rfl, by rw [sizeLine_eq]; decide, hch, ?_⟩
            repeat walk_at "st"
            exact q _ ⟨_, hci1, hci2, rfl⟩
          · rw [if_neg (fun z => h1 (of_decide_eq_true z))]
            repeat walk_at "st"
            exact q _ ⟨c.m, hcI.2.1, hcI.2.2.2.2, rfl⟩
        subst es
        dsimp only
        repeat walk_at "st"
        refine if_join (fun σ' => ∃ j', (0 ≤ j' ∧ j' ≤ 9999) ∧ σ' = [some (.ref na), some (.ref nb), some (.ref l), some (.int ki), some (.int pi), some (.ref wa), some (.int g), some (.int c.a), some (.str m'), some (.int j'), some (.int c.s), none, none, none]) (fun σ' ⟨j', hj, es⟩ => ?_) (fun D' q => ?_)
        rotate_left
        · by_cases h1 : V.int ki = V.int 2
          · rw [if_pos (decide_eq_true h1)]
            repeat walk_at "st"
            exact q _ ⟨g, hgI, rfl⟩
          · rw [if_neg (fun z => h1 (of_decide_eq_true z))]
            repeat walk_at "st"
            exact q _ ⟨c.l, hcI.2.2.1, rfl⟩
        subst es
        dsimp only
        repeat walk_at "st"
        refine if_join (fun σ' => ∃ s', (1 ≤ s' ∧ s' ≤ 12) ∧ σ' = [some (.ref na), some (.ref nb), some (.ref l), some (.int ki), some (.int pi), some (.ref wa), some (.int g), some (.int c.a), some (.str m'), some (.int j'), some (.int s'), none, none, none]) (fun σ' ⟨s', hs, es⟩ => ?_) (fun D' q => ?_)
        rotate_left
        · by_cases h1 : V.int ki = V.int 3
          · rw [if_pos (decide_eq_true h1)]
            repeat walk_at "st"
            have := Int.emod_nonneg c.s (show (12 : Int) ≠ 0 by decide)
            have := Int.emod_lt_of_pos c.s (show (0 : Int) < 12 by decide)
            exact q _ ⟨c.s % 12 + 1, by omega, rfl⟩
          · rw [if_neg (fun z => h1 (of_decide_eq_true z))]
            repeat walk_at "st"
            exact q _ ⟨c.s, hcI.2.2.2.1, rfl⟩
        subst es
        dsimp only
        repeat walk_at "st"
        intro t8 H8 ht8 e8 h8
        have h78 := e8.get h7
        repeat walk_at "st"
        refine k_dputE (k := kC c) rfl h78 (by rw [sizeLine_eq]; omega) fun H9 b9 h9 => ?_
        have ht9 := b9 _ _ (ne_of h8 h78 (fun z => nomatch z)) h8
        have R9 := ((R7.mono fun c v h => TRow.ex e8 h).mono fun c v h => TRow.exB h78 b9 h).put (c := (⟨c.a, m', j', s'⟩ : Cell)) (v := .ref t8) ⟨t8, rfl, ht9⟩
        have nd9 := putR_keys (key := kC) zs ⟨c.a, m', j', s'⟩ nd7
        have ci9 := putR_in (xs := zs) (c' := ⟨c.a, m', j', s'⟩) (p := CellIn) ci7 ⟨hcI.1, hm1, hj, hs, hm2⟩
        have ln9 := putR_len (key := kC) zs ⟨c.a, m', j', s'⟩
        have hv9 : valV (putK kvr (kC c) (V.ref t8)) (kC c) = some (V.ref t8) := by rw [valV_put, if_pos rfl]
        rw [show kC (⟨c.a, m', j', s'⟩ : Cell) = kC c from rfl] at R9
        generalize putK kvr (kC c) (V.ref t8) = kv9 at h9 R9 hv9
        generalize putR kC zs ⟨c.a, m', j', s'⟩ = z9 at R9 nd9 ci9 ln9
        repeat walk_at "st"
        by_cases h1 : V.int ki = V.int 7
        · rw [if_pos (decide_eq_true h1)]
          repeat walk_at "st"
          refine ⟨nb, rfl, .inl ⟨kv9, .inl h9⟩, ?_⟩
          repeat walk_at "st"
          refine ⟨kv9, kC c, _, h9, rfl, hv9, ?_⟩
          have ln10 : (dropR kC z9 (kC c)).length ≤ z9.length := List.length_filter_le _ _
          exact ⟨_, _, _, _, dropK kv9 (kC c), dropR kC z9 (kC c), rfl, (b7.trans ((ExB.of e8).trans b9)).trans ExB.upd, upd_same, (RowsK.drop R9 (kC c)).mono fun c v h => TRow_d _ _ _ _ c v h9 h, dropR_keys z9 _ nd9, fun c hc => ci9 c (List.mem_filter.mp hc).1, by omega, fun z => by omega⟩
        · rw [if_neg (fun z => h1 (of_decide_eq_true z))]
          repeat walk_at "st"
          exact ⟨_, _, _, _, kv9, z9, rfl, b7.trans ((ExB.of e8).trans b9), h9, R9, nd9, ci9, by omega, fun z => by omega⟩
      · subst es
        repeat walk_at "st"
        intro t8 H8 ht8 e8 h8
        have x7 : Ex H H7 := ExB.old e06 nbH b7
        exact fin H7 ns _ x7 ⟨⟨b7 _ _ nab ha6, hP.n.2⟩, hP.ni, hP.nl, ⟨kvr, h7, R7, nd7⟩, ci7, ln7, nab⟩ t8 H8 ht8 e8 h8
    · rw [if_neg hb]
      have P3 : Part H3 na nb ns xs := ⟨⟨ha3, hP.n.2⟩, hP.ni, hP.nl, ⟨kvs, hb3, RowsK.ex TRow_ex e03 hrw, nd⟩, hP.ci, hP.cl, nab⟩
      have wl : ws.length = ns.length := by have := pmw.length_eq; rwa [List.length_map] at this
      have win : ∀ x ∈ ws, ∃ n ∈ ns, n.1 = x := fun x hx => List.mem_map.mp (pmw.mem_iff.mp hx)
      have done : ∀ (H4 : Hp) (mo : List (Str × Int)), ExB na H3 H4 → H4 na = some (.dK (kvN mo)) → (mo.map (·.1)).Nodup → (∀ n, n ∈ mo → NmIn n) → mo.length ≤ 20 → Ex H H4 ∧ Part H4 na nb mo xs := fun H4 mo b4 h4 md mi ml => by
        have hb4 := b4 _ _ (Ne.symm nab) hb3
        have e04 := ExB.old e03 hna b4
        exact ⟨e04, ⟨h4, md⟩, mi, ml, ⟨kvs, hb4, RowsK.ex TRow_ex e04 hrw, nd⟩, hP.ci, hP.cl, nab⟩
      repeat walk_at "st"
      by_cases h0 : 0 < ws.length
      · have wlen' : ((ws.map V.str).length : Int) = ws.length := by rw [List.length_map]
        rw [if_pos (show decide (((ws.map V.str).length : Int) > 0) = true from decide_eq_true (by omega))]
        have hm2 := Int.emod_nonneg pi (show ((ws.map V.str).length : Int) ≠ 0 by omega)
        have hm3 := Int.emod_lt_of_pos pi (show (0 : Int) < ((ws.map V.str).length : Int) by omega)
        obtain ⟨wn, hwn⟩ : ∃ z, ws[(pi % ((ws.map V.str).length : Int)).toNat]? = some z := ⟨_, List.getElem?_eq_getElem (by omega)⟩
        obtain ⟨wo, hwo⟩ : ∃ z, ws[0]? = some z := ⟨_, List.getElem?_eq_getElem h0⟩
        obtain ⟨n1, hn1, en1⟩ := win wn (List.mem_of_getElem? hwn)
        obtain ⟨n2, hn2, en2⟩ := win wo (List.mem_of_getElem? hwo)
        have hI1 := hP.ni n1 hn1
        have hI2 := hP.ni n2 hn2
        have v1 := kvN_some hP.n.2 hn1
        have v2 := kvN_some hP.n.2 hn2
        rw [en1] at v1
        rw [en2] at v2
        repeat walk_at "st"
        refine k_ixL (.inl (.inl hw3)) (v := .str wn) (atI_of (by omega) (by rw [List.getElem?_map, hwn]; rfl)) ?_
        repeat walk_at "st"
        refine k_ixL (.inl (.inl hw3)) (v := .str wo) (by rw [show (0 : Int) = ((0 : Nat) : Int) from rfl]; exact atI_nat (by rw [List.getElem?_map, hwo]; rfl)) ?_
        repeat walk_at "st"
        by_cases h4 : V.int ki = V.int 4
        · rw [if_pos (decide_eq_true h4)]
          repeat walk_at "st"
          refine k_dputE (k := Sum.inr wn) rfl ha3 (by rw [sizeLine_eq, kvN_len]; omega) fun H9 b9 h9 => ?_
          obtain ⟨mo, eo, q1, q2, q3, q4⟩ := put_names (z := wn) (v := g) hP.n.2 hP.ni ⟨by rw [← en1]; exact hI1.1, by rw [← en1]; exact hI1.2.1, hgI.1, hgI.2, by rw [← en1]; exact hI1.2.2.2.2⟩
          rw [eo] at h9
          obtain ⟨e9, P9⟩ := done H9 mo b9 h9 q1 q4 (by omega)
          repeat walk_at "st"
          intro t8 H8 ht8 e8 h8
          exact fin H9 mo xs e9 P9 t8 H8 ht8 e8 h8
        rw [if_neg (fun z => h4 (of_decide_eq_true z))]
        repeat walk_at "st"
        by_cases h5 : V.int ki = V.int 5
        · rw [if_pos (decide_eq_true h5)]
          repeat walk_at "st"
          refine ⟨na, rfl, .inl ⟨_, .inl ha3⟩, ?_⟩
          repeat walk_at "st"
          refine ⟨kvN ns, Sum.inr wn, _, ha3, rfl, v1, ?_⟩
          have b9 : ExB na H3 (upd H3 na (.dK (dropK (kvN ns) (Sum.inr wn)))) := ExB.upd
          have h9 : upd H3 na (.dK (dropK (kvN ns) (Sum.inr wn))) na = some (.dK (dropK (kvN ns) (Sum.inr wn))) := upd_same
          generalize upd H3 na (.dK (dropK (kvN ns) (Sum.inr wn))) = H9 at b9 h9
          rw [kvN_drop] at h9
          have nd9 : ((ns.filter fun n => decide (n.1 ≠ wn)).map (·.1)).Nodup := hP.n.2.sublist (List.Sublist.map _ List.filter_sublist)
          have ni9 : ∀ n, n ∈ (ns.filter fun n => decide (n.1 ≠ wn)) → NmIn n := fun n hn => hP.ni n (List.mem_filter.mp hn).1
          have nl9 : (ns.filter fun n => decide (n.1 ≠ wn)).length ≤ ns.length := List.length_filter_le _ _
          generalize (ns.filter fun n => decide (n.1 ≠ wn)) = n9 at h9 nd9 ni9 nl9
          repeat walk_at "st"
          refine k_dputE (k := Sum.inr ("q" : Str)) rfl h9 (by rw [sizeLine_eq, kvN_len]; omega) fun H10 b10 h10 => ?_
          obtain ⟨mo, eo, q1, q2, q3, q4⟩ := put_names (z := ("q" : Str)) (v := n1.2) nd9 ni9 (q_in hI1.2.2.1 hI1.2.2.2.1)
          rw [eo] at h10
          obtain ⟨e10, P10⟩ := done H10 mo (b9.trans b10) h10 q1 q4 (by omega)
          repeat walk_at "st"
          intro t8 H8 ht8 e8 h8
          exact fin H10 mo xs e10 P10 t8 H8 ht8 e8 h8
        rw [if_neg (fun z => h5 (of_decide_eq_true z))]
        repeat walk_at "st"
        refine k_dgetE (k := Sum.inr wn) rfl (.inl ha3) v1 ?_
        repeat walk_at "st"
        refine k_dgetE (k := Sum.inr wo) rfl (.inl ha3) v2 ?_
        repeat walk_at "st"
        refine k_dputE (k := Sum.inr wn) rfl ha3 (by rw [sizeLine_eq, kvN_len]; omega) fun H9 b9 h9 => ?_
        obtain ⟨mo, eo, q1, q2, q3, q4⟩ := put_names (z := wn) (v := n2.2) hP.n.2 hP.ni ⟨by rw [← en1]; exact hI1.1, by rw [← en1]; exact hI1.2.1, hI2.2.2.1, hI2.2.2.2.1, by rw [← en1]; exact hI1.2.2.2.2⟩
        rw [eo] at h9
        repeat walk_at "st"
        refine k_dputE (k := Sum.inr wo) rfl h9 (by rw [sizeLine_eq, kvN_len]; omega) fun H10 b10 h10 => ?_
        obtain ⟨mp, ep, r1, r2, r3, r4⟩ := put_names (z := wo) (v := n1.2) q1 q4 ⟨by rw [← en2]; exact hI2.1, by rw [← en2]; exact hI2.2.1, hI1.2.2.1, hI1.2.2.2.1, by rw [← en2]; exact hI2.2.2.2.2⟩
        rw [ep] at h10
        obtain ⟨e10, P10⟩ := done H10 mp (b9.trans b10) h10 r1 r4 (by omega)
        repeat walk_at "st"
        intro t8 H8 ht8 e8 h8
        exact fin H10 mp xs e10 P10 t8 H8 ht8 e8 h8
      · rw [if_neg (show ¬ decide (((ws.map V.str).length : Int) > 0) = true by rw [List.length_map, decide_eq_true_eq]; omega)]
        repeat walk_at "st"
        intro t8 H8 ht8 e8 h8
        exact fin H3 ns xs e03 P3 t8 H8 ht8 e8 h8
end


/-! ### _law_sort, _law_same while an exception is handled -/
theorem k_callQ {sp : Addr × Obj → Sp} {p : Addr × Obj} {t : TA} {σ : L2.St} {H : Hp} {Q : VK} (h : t σ H fun vs H1 => sp p vs H1 Q fun _ _ _ => False) : tCallQ sp p t σ H Q := h
theorem k_zipTH {K : PySem.W.Frag} {ta : TA} {σ : L2.St} {H : Hp} {R : It → Hp → Prop} (h : ta σ H fun vs H1 => ∃ a b xs ys, vs = [.ref a, .ref b] ∧ SqT K H1 a xs ∧ SqT K H1 b ys ∧ R (RZ.ItzT K a b) H1) : iZipTH K ta σ H R := h
theorem noLs_mem : ∀ {ds : List PyData}, noLs ds = true → ∀ d ∈ ds, noL d = true
  | d :: ds, h, x, hx => by
    have h2 : noL d = true ∧ noLs ds = true := by simpa [noLs] using h
    rcases List.mem_cons.mp hx with rfl | hx
    · exact h2.1
    · exact noLs_mem h2.2 x hx
def spSortQ (K : PySem.W.Frag) (_ : Addr × Obj) : Sp := fun vs H Q _ => ∃ x n, vs = [x] ∧ Sort1 K H x n ∧ Q (.int n) H
def spSameQ (K : PySem.W.Frag) (_ : Addr × Obj) : Sp := fun vs H Q _ => ∃ x y d, vs = [x, y] ∧ Dp K H x d ∧ Dp K H y d ∧ noL d = true ∧ wt d ≤ 9000 ∧ ∀ H', Ex H H' → Q (.bl true) H'
section
variable {P : Program} {w : World} {K : PySem.W.Frag} {mg : Str → Option Value} {base : Heap}
theorem q_l_sort (T : Tx w K mg) : CalQ P w K mg base 1 "_law_sort" ["thing"] (spSortQ K) := by
  refine calQ_mk T.D_l_sort T.m__law_sort sc_l_sort (fun _ _ _ _ _ _ us hl => match us, hl with | [_], _ => rfl) (fun p vs H Q E h => ?_) (fun f cdv A outer s H vs Q E p hot hr h => ?_)
  · obtain ⟨x, n, rfl, _⟩ := h
    rfl
  · obtain ⟨x, n, rfl, hx, k⟩ := h
    refine ⟨_, ((pss_cons (ps_if (pt_val (pe_callB call_isi rfl T.f_isinstance (by decide +kernel) (pa_cons (pv 0) (pa_cons (pe_ty (n := "bool") rfl T.f_bool (by decide +kernel)) pa_nil)))) (pss_one (ps_ret pe_int)) pss_nil)
  (pss_cons (ps_if (pt_val (pe_callB call_isi rfl T.f_isinstance (by decide +kernel) (pa_cons (pv 0) (pa_cons (pe_ty (n := "int") rfl T.f_int (by decide +kernel)) pa_nil)))) (pss_one (ps_ret pe_int)) pss_nil)
  (pss_cons (ps_if (pt_val (pe_callB call_isi rfl T.f_isinstance (by decide +kernel) (pa_cons (pv 0) (pa_cons (pe_ty (n := "str") rfl T.f_str (by decide +kernel)) pa_nil)))) (pss_one (ps_ret pe_int)) pss_nil)
  (pss_cons (ps_if (pt_val (pe_callB call_isi rfl T.f_isinstance (by decide +kernel) (pa_cons (pv 0) (pa_cons (pe_ty (n := "tuple") rfl T.f_tuple (by decide +kernel)) pa_nil)))) (pss_one (ps_ret pe_int)) pss_nil)
  (pss_cons (ps_if (pt_val (pe_callB call_isi rfl T.f_isinstance (by decide +kernel) (pa_cons (pv 0) (pa_cons (pe_ty (n := "list") rfl T.f_list (by decide +kernel)) pa_nil)))) (pss_one (ps_ret pe_int)) pss_nil)
  (pss_one (ps_ret (pe_ifExp (pt_cmp (pc_isN (pv 0))) pe_int pe_int))))))))), ?_⟩
    dsimp only [L2H.cxH, cxOf]
    cases hx with
    | bl b =>
      repeat walk_at "st"
      refine k_isi (.base (.bl b)) (b := true) (by decide +kernel) ?_
      repeat walk_at "st"
      exact k
    | int i =>
      repeat walk_at "st"
      refine k_isi (.base (.int i)) (b := false) (by decide +kernel) ?_
      repeat walk_at "st"
      refine k_isi (.base (.int i)) (b := true) (by decide +kernel) ?_
      repeat walk_at "st"
      exact k
    | str z =>
      repeat walk_at "st"
      refine k_isi (.base (.str z)) (b := false) (by decide +kernel) ?_
      repeat walk_at "st"
      refine k_isi (.base (.str z)) (b := false) (by decide +kernel) ?_
      repeat walk_at "st"
      refine k_isi (.base (.str z)) (b := true) (by decide +kernel) ?_
      repeat walk_at "st"
      exact k
    | @tup a xs hs =>
      have ty := tyX_T hs
      repeat walk_at "st"
      refine k_isi ty (b := false) (by decide +kernel) ?_
      repeat walk_at "st"
      refine k_isi ty (b := false) (by decide +kernel) ?_
      repeat walk_at "st"
      refine k_isi ty (b := false) (by decide +kernel) ?_
      repeat walk_at "st"
      refine k_isi ty (b := true) (by decide +kernel) ?_
      repeat walk_at "st"
      exact k
    | @lst a xs hs =>
      have ty := tyX_L hs
      repeat walk_at "st"
      refine k_isi ty (b := false) (by decide +kernel) ?_
      repeat walk_at "st"
      refine k_isi ty (b := false) (by decide +kernel) ?_
      repeat walk_at "st"
      refine k_isi ty (b := false) (by decide +kernel) ?_
      repeat walk_at "st"
      refine k_isi ty (b := false) (by decide +kernel) ?_
      repeat walk_at "st"
      refine k_isi ty (b := true) (by decide +kernel) ?_
      repeat walk_at "st"
      exact k
    | non =>
      have ty : TyX K H .non (.type "NoneType") := .base .non
      repeat walk_at "st"
      refine k_isi ty (b := false) (by decide +kernel) ?_
      repeat walk_at "st"
      refine k_isi ty (b := false) (by decide +kernel) ?_
      repeat walk_at "st"
      refine k_isi ty (b := false) (by decide +kernel) ?_
      repeat walk_at "st"
      refine k_isi ty (b := false) (by decide +kernel) ?_
      repeat walk_at "st"
      refine k_isi ty (b := false) (by decide +kernel) ?_
      repeat walk_at "st"
      exact k
def SameIQ (K : PySem.W.Frag) (H : Hp) (told due : V) (l : Addr) (bound : Nat) (σ : L2.St) (H' : Hp) : Prop := ∃ (qs : List Wait) (v3 v4 v5 v6 v7 v8 : Option V), σ = [some told, some due, some (.ref l), v3, v4, v5, v6, v7, v8] ∧
  H l = none ∧ Ex H H' ∧ H' l = some (.lst (qs.map fun q => V.ref q.p)) ∧ (∀ q ∈ qs, WaitOk K H H' q ∧ noL q.d = true) ∧ wsum qs ≤ bound
def SameZQ (K : PySem.W.Frag) (H : Hp) (told due : V) (l : Addr) (init : List Wait) (ds : List PyData) (j : Nat) (v3 v4 v5 v6 : Option V) (σ : L2.St) (H' : Hp) : Prop := ∃ (qs : List Wait) (v7 v8 : Option V), σ = [some told, some due, some (.ref l), v3, v4, v5, v6, v7, v8] ∧
  Ex H H' ∧ H' l = some (.lst ((init ++ qs).map fun q => V.ref q.p)) ∧ (∀ q ∈ init ++ qs, WaitOk K H H' q ∧ noL q.d = true) ∧ wsum qs = wts (ds.take j)
theorem q_l_same (T : Tx w K mg) : CalQ P w K mg base 2 "_law_same" ["told", "due"] (spSameQ K) := by
  refine calQ_mk T.D_l_same T.m__law_same sc_l_same (fun _ _ _ _ _ _ us hl => match us, hl with | [_, _], _ => rfl) (fun p vs H Q E h => ?_) (fun f cdv A outer s H vs Q E p0 hot hr h => ?_)
  · obtain ⟨x, y, d, rfl, _⟩ := h
    rfl
  · obtain ⟨x, y, d, rfl, hx, hy, hnl, hd, k⟩ := h
    have hc : L2H.HotC (L2H.cxH CX0 P w K mg base ["told", "due", "pairs", "k", "one", "two", "kind", "x", "y"] "_law_same" (defScope s_l_same) f cdv A outer s H E p0) := ⟨p0, hot, List.mem_singleton.mpr rfl⟩
    refine ⟨_, (pss_cons (ps_set (i := 2) sc_l_same.nd rfl (Or.inl rfl) (pe_lst (pa_cons (pe_tup (pa_cons (pv 0) (pa_cons (pv 1) pa_nil))) pa_nil)))
      (pss_cons (L2H.ps_forH (passes_of rfl) hc (L2H.pi_range1H rfl T.f_range (pa_cons pe_int pa_nil)) (pg_name (i := 3) sc_l_same.nd rfl (Or.inl rfl)) (pss_cons (ps_if (pt_cmpR op_eq (pe_callB cr_len rfl T.f_len (by decide +kernel) (pa_cons (pv 2) pa_nil)) pe_int (nomark _)) (pss_one (ps_ret pe_bl)) pss_nil)
      (pss_cons (ps_asg (pe_bm0 PySem.F.plainAttrs_list PySem.F.slot_list_pop PySem.F.type_list_pop mt_pop (pv 2)) (pg_tupH (n := 2) hc (pgs_cons (pg_name (i := 4) sc_l_same.nd rfl (Or.inl rfl)) (pgs_cons (pg_name (i := 5) sc_l_same.nd rfl (Or.inl rfl)) pgs_nil))))
      (pss_cons (ps_set (i := 6) sc_l_same.nd rfl (Or.inl rfl) (by exact pe_calQ (q_l_sort T) hr (by decide) hot (List.mem_singleton.mpr rfl) rfl (pa_cons (pv 5) pa_nil)))
      (pss_cons (ps_if (pw_or (pt_cmpR op_eq (pv 6) pe_int (nomark _)) (pw_or1 (pt_cmpR op_ne (by exact pe_calQ (q_l_sort T) hr (by decide) hot (List.mem_singleton.mpr rfl) rfl (pa_cons (pv 4) pa_nil)) (pv 6) (nomark _)))).pt (pss_one (ps_ret pe_bl)) pss_nil)
      (pss_one (ps_if (pt_cmpR o_ge (pv 6) pe_int (nomark _)) (pss_cons (ps_if (pt_cmpR op_ne (pe_callB cr_len rfl T.f_len (by decide +kernel) (pa_cons (pv 4) pa_nil)) (pe_callB cr_len rfl T.f_len (by decide +kernel) (pa_cons (pv 5) pa_nil)) (nomark _)) (pss_one (ps_ret pe_bl)) pss_nil)
        (pss_one (L2H.ps_forH (passes_of rfl) hc (pi_zipTH rfl T.f_zip (pa_cons (pv 4) (pa_cons (pv 5) pa_nil))) (pg_tupH (n := 2) hc (pgs_cons (pg_name (i := 7) sc_l_same.nd rfl (Or.inl rfl)) (pgs_cons (pg_name (i := 8) sc_l_same.nd rfl (Or.inl rfl)) pgs_nil))) (pss_one (ps_expr (pe_bm PySem.F.plainAttrs_list PySem.F.slot_list_append PySem.F.type_list_append mt_append (pv 2) (pa_cons (pe_tup (pa_cons (pv 7) (pa_cons (pv 8) pa_nil))) pa_nil))))))) (pss_one (ps_if (pt_cmpR op_ne (pv 4) (pv 5) (nomark _)) (pss_one (ps_ret pe_bl)) pss_nil)))))))))
      (pss_one (ps_ret pe_bl)))), ?_⟩
    dsimp only [L2H.cxH, cxOf]
    repeat walk_at "st"
    intro p H1 hp e1 h1
    repeat walk_at "st"
    intro l H2 hl e2 h2
    repeat walk_at "st"
    have e02 : Ex H H2 := e1.trans e2
    refine for_range (lo := 0) (fun i σ' H' => SameIQ K H x y l (9000 - i) σ' H' ∧ i ≤ 9000) ?_ ?_ ?_
    · exact ⟨⟨[⟨p, x, y, d⟩], none, none, none, none, none, none, rfl, e1.none hl, e02, h2, fun q hq => by
        rw [List.mem_singleton.mp hq]
        exact ⟨⟨e2.get h1, hx, hy⟩, hnl⟩, by simpa [wsum, wts] using hd⟩, Nat.zero_le _⟩
    · rintro i σ' H' hi ⟨⟨qs, v3, v4, v5, v6, v7, v8, rfl, n0, e, hL, hq, hw⟩, hi9⟩
      repeat walk_at "st"
      split
      · repeat walk_at "st"
        exact k _ e
      · rename_i hne
        have hqs : qs ≠ [] := fun z => hne (by rw [z]; rfl)
        obtain ⟨init, q, rfl⟩ : ∃ init q, qs = init ++ [q] := ⟨qs.dropLast, qs.getLast hqs, (List.dropLast_concat_getLast hqs).symm⟩
        have hi1 : wsum (init ++ [q]) = wsum init + wt q.d := by
          rw [wsum_app]
          simp [wsum, wts]
        have hpos := wt_pos q.d
        have hlt : i + 1 ≤ 9000 := by
          have := wsum_len (init ++ [q])
          rw [List.length_append, List.length_singleton] at this
          omega
        obtain ⟨⟨hqp, hqx, hqy⟩, hqn⟩ := hq q (by simp)
        repeat walk_at "st"
        refine k_pop (v := .ref q.p) hL (by simp) ?_
        intro H3 b3 h3
        have nql : q.p ≠ l := ne_of hqp hL (by intro z; cases z)
        have hqp3 : H3 q.p = some (.tup [q.x, q.y]) := b3 _ _ nql hqp
        have e3 : Ex H H3 := ExB.old e n0 b3
        have hr3 : ∀ r ∈ init, WaitOk K H H3 r ∧ noL r.d = true := fun r hr => by
          obtain ⟨⟨a1, a2, a3⟩, a4⟩ := hq r (by simp [hr])
          exact ⟨⟨b3 _ _ (ne_of a1 hL (by intro z; cases z)) a1, a2, a3⟩, a4⟩
        have h3' : H3 l = some (.lst (init.map fun q => V.ref q.p)) := by
          rw [h3]
          simp
        repeat walk_at "st"
        refine k_callQ ?_
        repeat walk_at "st"
        obtain ⟨n, s1, s6, sy, sf, sd⟩ := sort_of (Dp_ex e3 _ _ hqx)
        refine ⟨q.y, n, rfl, sy (Dp_ex e3 _ _ hqy), ?_⟩
        repeat walk_at "st"
        rw [show decide (V.int n = V.int 6) = false from decide_eq_false fun z => s6 (V.int.inj z)]
        refine iteF ?_
        repeat walk_at "st"
        refine k_callQ ?_
        repeat walk_at "st"
        refine ⟨q.x, n, rfl, s1, ?_⟩
        repeat walk_at "st"
        rw [decide_eq_true (rfl : V.int n = V.int n)]
        refine iteF ?_
        repeat walk_at "st"
        split
        · rename_i h4
          have h4 : (4 : Int) ≤ n := of_decide_eq_true h4
          -- the items' pairs wait
          have inner : ∀ (xs ys : List V) (ds : List PyData) (ax ay : Addr) (D : Ends), DpAll K H xs ds → DpAll K H ys ds → (∀ d ∈ ds, noL d = true) → 1 + wts ds = wt q.d →
              ∀ (j : Nat) (x1 y1 : V) (T1 : Addr) (σ5 : L2.St) (H5 : Hp), xs[j]? = some x1 → ys[j]? = some y1 → SameZQ K H x y l init ds j (some (.int (0 + (i : Int)))) (some q.x) (some q.y) (some (.int n)) σ5 H5 → H5 T1 = none →
              gTup K 2 (gCons (gName 7) (gCons (gName 8) gNil)) (.ref T1) σ5 (upd H5 T1 (.tup [x1, y1])) fun σ2 H2 =>
                tDrop (tBM K "list" rAppend (tVar 2) (tCons (tTup (tCons (tVar 7) (tCons (tVar 8) tNil))) tNil)) { D with nx := SameZQ K H x y l init ds (j + 1) (some (.int (0 + (i : Int)))) (some q.x) (some q.y) (some (.int n)), ct := SameZQ K H x y l init ds (j + 1) (some (.int (0 + (i : Int)))) (some q.x) (some q.y) (some (.int n)), bk := D.nx } σ2 H2 := by
            rintro xs ys ds ax ay D hxs hys hdn hds j x1 y1 T1 σ5 H5 hj1 hj2 ⟨qs', v7, v8, rfl, e5, h5, hr5, hw5⟩ hT1
            obtain ⟨d1, hd1, dx1⟩ := L3.DpAll.get hxs hj1
            obtain ⟨d2, hd2, dy1⟩ := L3.DpAll.get hys hj2
            rw [hd1] at hd2
            cases hd2
            have eT : Ex H5 (upd H5 T1 (.tup [x1, y1])) := Ex.new hT1
            have hT : upd H5 T1 (.tup [x1, y1]) T1 = some (.tup [x1, y1]) := upd_same
            generalize upd H5 T1 (.tup [x1, y1]) = H6 at eT hT
            have hl5 : (init ++ qs').length ≤ 20000 := by
              have z1 := wsum_len (init ++ qs')
              rw [wsum_app, hw5] at z1
              have z2 : wts (ds.take j) ≤ wts ds := by
                have z3 := wts_app (ds.take j) (ds.drop j)
                rw [List.take_append_drop] at z3
                omega
              omega
            rw [List.length_append] at hl5
            have h6 := eT.get h5
            have n0' := n0
            refine k_gTup (Or.inl (Or.inl hT)) rfl ?_
            repeat walk_at "st"
            intro p7 H7 hp7 e7 h7
            have h67 := e7.get h6
            repeat walk_at "st"
            intro H8 b8 h8
            repeat walk_at "st"
            refine ⟨qs' ++ [⟨p7, x1, y1, d1⟩], _, _, rfl, ExB.old ((e5.trans eT).trans e7) n0 b8, ?_, ?_, ?_⟩
            · rw [h8]
              simp
            · intro r hr
              rw [← List.append_assoc] at hr
              rcases List.mem_append.mp hr with hr | hr
              · obtain ⟨⟨a1, a2, a3⟩, a4⟩ := hr5 r hr
                exact ⟨⟨b8 _ _ (ne_of a1 h5 (by intro z; cases z)) (e7.get (eT.get a1)), a2, a3⟩, a4⟩
              · rw [List.mem_singleton.mp hr]
                exact ⟨⟨b8 _ _ (ne_of h7 h67 (by intro z; cases z)) h7, dx1, dy1⟩, hdn d1 (List.mem_of_getElem? hd1)⟩
            · rw [wsum_app, hw5, List.take_succ, hd1, wts_app]
              simp [wsum, wts]
          have fin : ∀ (ds : List PyData), 1 + wts ds = wt q.d → ∀ (σ5 : L2.St) (H5 : Hp), SameZQ K H x y l init ds ds.length (some (.int (0 + (i : Int)))) (some q.x) (some q.y) (some (.int n)) σ5 H5 → SameIQ K H x y l (9000 - (i + 1)) σ5 H5 ∧ i + 1 ≤ 9000 := by
            rintro ds hds σ5 H5 ⟨qs', v7, v8, rfl, e5, h5, hr5, hw5⟩
            refine ⟨⟨init ++ qs', _, _, _, _, _, _, rfl, n0, e5, h5, hr5, ?_⟩, hlt⟩
            rw [wsum_app, hw5, List.take_length]
            omega
          rcases q with ⟨qp, qx, qy, qd⟩
          dsimp only at *
          rcases sd h4 with ⟨ds, rfl⟩ | ⟨ds, rfl⟩
          · simp [noL] at hqn
          · cases hqx with
            | @tup ax xs _ sx dx =>
              cases hqy with
              | @tup ay ys _ sy dy =>
                have lx := L3.DpAll.length dx
                have ly := L3.DpAll.length dy
                have sx3 := e3.sqT sx
                have sy3 := e3.sqT sy
                repeat walk_at "st"
                rw [lx, ly, decide_eq_true rfl]
                refine iteF ?_
                repeat walk_at "st"
                refine k_zipTH ?_
                repeat walk_at "st"
                have hdn : ∀ d ∈ ds, noL d = true := noLs_mem (by simpa [noL] using hqn)
                refine ⟨ax, ay, xs, ys, rfl, sx3, sy3, RZ.for_zipT (xs := xs) (ys := ys) (by rw [lx, ly]) (SameZQ K H x y l init ds · (some (.int (0 + (i : Int)))) (some (.ref ax)) (some (.ref ay)) (some (.int n))) ⟨[], _, _, rfl, e3, by simpa using h3', by simpa using hr3, by simp [wsum, wts]⟩
                  (fun j σ5 H5 ⟨_, _, _, _, e5, _⟩ => ⟨e5.sqT sx, e5.sqT sy⟩) (fun j x1 y1 T1 σ5 H5 g1 g2 p hT => inner xs ys ds ax ay _ dx dy hdn (by rw [wt]) j x1 y1 T1 σ5 H5 g1 g2 p hT) (by rw [lx]; exact fin ds (by rw [wt]))⟩
        · rename_i h4
          have h4 : ¬ (4 : Int) ≤ n := fun z => h4 (decide_eq_true z)
          obtain ⟨eyx, sc⟩ := sf (by omega) (Dp_ex e3 _ _ hqy)
          repeat walk_at "st"
          rw [eyx]
          refine k_ne sc ?_
          repeat walk_at "st"
          rw [decide_eq_true rfl]
          refine iteF ?_
          repeat walk_at "st"
          exact ⟨⟨init, _, _, _, _, _, _, rfl, n0, e3, h3', hr3, by omega⟩, hlt⟩
    · rintro σ' H' ⟨_, h⟩
      exact absurd h (by decide)
end


/-! ### what the suite asks -/
theorem k_xfQ {a : Addr} {d : Option Addr} {f : Str} {te : TE} {σ : L2.St} {H : Hp} {Q : VK} (h : te σ H fun x H1 => x = .ref a ∧ ∃ (dd : Addr) (fs : List (Str × V)) (v : V), d = some dd ∧ H1 dd = some (.xd fs) ∧ fs.lookup f = some v ∧ Q v H1) : tXfQ a d f te σ H Q := h
theorem exm_ex {H H' : Hp} {d : Option Addr} (e : Ex H H') (h : ExAt H d) : ExAt H' d := h.imp id fun ⟨dd, fs, x, y⟩ => ⟨dd, fs, x, e.get y⟩
/-- _law_same in a suite -/
def spSameS (K : PySem.W.Frag) : Sp := fun vs H Q _ => ∃ x y d, vs = [x, y] ∧ Dp K H x d ∧ Dp K H y d ∧ noL d = true ∧ wt d ≤ 9000 ∧ ∀ H', Ex H H' → Q (.bl true) H'
theorem pe_sameS {X : Cx} {a : Addr} {oe : Obj} {cls : Value} {d : Option Addr} {pn : List (Addr × Obj)} {j k : Nat} {q pos : PySem.Pos} {e : Expr} {es : List Expr} {t : TA} (c : CalQ X.prog X.w X.K X.mg X.base k "_law_same" ["told", "due"] (spSameQ X.K)) (hr : Room j X.A) (hk : k ≤ j) (hz : L2N.Zn cls d oe) (hf : ∃ vs, oe.data = .fields vs) (hg : Gl X "_law_same")
    (ha : PA (X.suite a ((a, oe) :: pn)) (e :: es) t) (he : starEach (e :: es) X.env = (false, eval e X.env) :: starEach es X.env := by rfl) (hpl : (backTo pos (starEach es X.env)).any (·.1) = false := by rfl) :
    PE (X.suite a ((a, oe) :: pn)) (.Call (.Name "_law_same" q) (e :: es) [] pos) (tCallR (spSameS X.K) t) := by
  have hot : L2H.Hot1 (X.suite a ((a, oe) :: pn)).A (a, oe) := ⟨rfl, let ⟨vs, hv⟩ := hf; ⟨vs, hv, hz.2.2 vs hv⟩⟩
  have hr2 : L2H.RoomH j (X.suite a ((a, oe) :: pn)).A := ⟨hr.dp, hr.un⟩
  have hdb : (("_law_same" : Str) == ("__debug__" : Str)) = false := by decide
  exact pe_calR (X := X.suite a ((a, oe) :: pn)) (p := (a, oe)) c hr2 hk hot List.mem_cons_self (fun vs H Q h => h) hg ha hdb he hpl


/-! ### _law_far, _law_refuses -/
def spFar : Sp := fun vs H Q _ => ∃ (b l : Addr) (xs : List Cell) (ps : List Int), vs = [.ref b, .ref l] ∧ DictC H b xs ∧ xs.length ≤ 59 ∧ (∀ c ∈ xs, c.a ∈ ps) ∧ H l = some (.lst (ps.map V.int)) ∧ ps.length ≤ 90 ∧
  ∀ H' t b' far, Ex H H' → H' t = some (.tup [.int far, .ref b']) → H b' = none → far ∉ ps → 1 ≤ far → far ≤ 99 → DictC H' b' (xs ++ [⟨far, "c", far, 5⟩]) → Q (.ref t) H'
section
variable {P : Program} {w : World} {K : PySem.W.Frag} {mg : Str → Option Value} {base : Heap}
theorem c_l_far (T : Tx w K mg) : Cal P w K mg base CX0 1 "_law_far" ["cells", "places"] spFar := by
  refine cal_mk T.D_l_far T.m__law_far sc_l_far (fun _ _ _ _ _ _ us hl => match us, hl with | [_, _], _ => rfl) (fun vs H Q E h => ?_) (fun f cdv A outer s H vs Q E hr h => ?_)
  · obtain ⟨b, l, xs, ps, rfl, _⟩ := h
    rfl
  · obtain ⟨b, l, xs, ps, rfl, hC, hxl, hxp, hl, hpl, k⟩ := h
    obtain ⟨kvs, hk, hrw, nd⟩ := hC
    have hkl := rows_len hrw
    have hu := hu_of hr
    refine ⟨_, ((pss_cons (ps_par (i := 2) (j := 3) rfl sc_l_far.nd rfl rfl (by decide) rfl rfl (pa_cons pe_int (pa_cons (pe_callTy cr_dictOf rfl T.f_dict (by decide +kernel) (pa_cons (pv 0) pa_nil)) pa_nil)) rfl)
  (pss_cons (ps_for PassesOwn.never rfl (pi_range1 rfl T.f_range (pa_cons pe_int pa_nil)) (pg_name (i := 4) sc_l_far.nd rfl (Or.inl rfl)) (pss_one (ps_if (pt_cmpR op_in_seq (pv 2) (pv 1) rfl) (pss_one (ps_set (i := 2) sc_l_far.nd rfl (Or.inl rfl) (pe_op o_add (pv 2) pe_int))) pss_nil)))
  (pss_cons (ps_dput hu (pv 3) (pv 2) (pe_tup (pa_cons pe_str (pa_cons (pv 2) (pa_cons pe_int pa_nil)))) rfl)
  (pss_one (ps_ret (pe_tup (pa_cons (pv 2) (pa_cons (pv 3) pa_nil))))))))), ?_⟩
    dsimp only [cxOf, Cx.nox]
    repeat walk_at "st"
    refine ⟨b, kvs, rfl, .inl hk, fun nb hnb => ?_⟩
    have e1 : Ex H (upd H nb (.dK kvs)) := Ex.new hnb
    have hb1 : upd H nb (.dK kvs) nb = some (.dK kvs) := upd_same
    generalize upd H nb (.dK kvs) = H1 at e1 hb1
    have hl1 := e1.get hl
    repeat walk_at "st"
    refine for_range (lo := 0) (fun i σ' H' => ∃ (far : Int) (v4 : Option V), σ' = [some (.ref b), some (.ref l), some (.int far), some (.ref nb), v4] ∧ H' = H1 ∧ 1 ≤ far ∧ far ≤ i + 1 ∧ (∀ j : Int, 1 ≤ j → j < far → j ∈ ps) ∧ (far = i + 1 ∨ far ∉ ps)) ⟨1, _, rfl, rfl, by omega, by omega, fun j h1 h2 => by omega, .inl rfl⟩ (fun i σ' H' hi ⟨far, v4, es, eh, f1, f2, f3, f4⟩ => ?_) (fun σ' H' ⟨far, v4, es, eh, f1, f2, f3, f4⟩ => ?_)
    · subst es eh
      repeat walk_at "st"
      refine k_in (xs := ps.map V.int) (.inl (.inl (.inl hl1))) rfl (flat_int _) ?_
      rw [if_neg (by decide), inV_int]
      by_cases c2 : far ∈ ps
      · rw [decide_eq_true c2]
        repeat walk_at "st"
        refine ⟨_, _, rfl, rfl, by omega, by omega, fun j h1 h2 => ?_, ?_⟩
        · by_cases e : j = far
          · rw [e]; exact c2
          · exact f3 j h1 (by omega)
        · rcases f4 with e | h
          · exact .inl (by omega)
          · exact absurd c2 h
      · rw [decide_eq_false c2]
        repeat walk_at "st"
        exact ⟨_, _, rfl, rfl, f1, by omega, f3, .inr c2⟩
    · subst es eh
      have hfar : far ∉ ps := by
        rcases f4 with e | h
        · intro _
          have := nodup_le (l1 := (List.range 99).map fun n : Nat => ((n : Int) + 1)) (l2 := ps) (by
            rw [List.nodup_iff_pairwise_ne, List.pairwise_map]
            exact (List.nodup_range (n := 99)).imp fun h e => h (by omega)) fun a ha => by
              obtain ⟨n, hn, rfl⟩ := List.mem_map.mp ha
              have := List.mem_range.mp hn
              exact f3 _ (by omega) (by omega)
          rw [List.length_map, List.length_range] at this
          omega
        · exact h
      have f99 : far ≤ 99 := by
        rcases f4 with e | h
        · have h1 := hfar
          by_cases z : far ≤ 99
          · exact z
          · exfalso
            have := nodup_le (l1 := (List.range 99).map fun n : Nat => ((n : Int) + 1)) (l2 := ps) (by
              rw [List.nodup_iff_pairwise_ne, List.pairwise_map]
              exact (List.nodup_range (n := 99)).imp fun h e => h (by omega)) fun a ha => by
                obtain ⟨n, hn, rfl⟩ := List.mem_map.mp ha
                have := List.mem_range.mp hn
                exact f3 _ (by omega) (by omega)
            rw [List.length_map, List.length_range] at this
            omega
        · by_cases z : far ≤ 99
          · exact z
          · exfalso
            have := nodup_le (l1 := (List.range 99).map fun n : Nat => ((n : Int) + 1)) (l2 := ps) (by
              rw [List.nodup_iff_pairwise_ne, List.pairwise_map]
              exact (List.nodup_range (n := 99)).imp fun h e => h (by omega)) fun a ha => by
                obtain ⟨n, hn, rfl⟩ := List.mem_map.mp ha
                have := List.mem_range.mp hn
                exact f3 _ (by omega) (by omega)
            rw [List.length_map, List.length_range] at this
            omega
      repeat walk_at "st"
      intro t5 H5 ht5 e5 h5
      have hb5 := e5.get hb1
      have hrw5 : RowsOf H5 kvs xs := RowsK.ex TRow_ex (e1.trans e5) hrw
      repeat walk_at "st"
      refine k_dputE (k := Sum.inl far) rfl hb5 (by rw [sizeLine_eq]; omega) fun H6 b6 h6 => ?_
      have ht6 := b6 _ _ (ne_of h5 hb5 (fun z => nomatch z)) h5
      have R6 := (hrw5.mono fun c v h => TRow.exB hb5 b6 h).put (c := (⟨far, "c", far, 5⟩ : Cell)) (v := .ref t5) ⟨t5, rfl, ht6⟩
      have hnone : rowAt kC xs (kC (⟨far, "c", far, 5⟩ : Cell)) = none := rowAt_none' fun d hd he => hfar (by have := hxp d hd; rwa [show d.a = far from Sum.inl.inj he] at this)
      have nd6 := putR_keys (key := kC) xs ⟨far, "c", far, 5⟩ nd
      rw [putR_new hnone] at R6 nd6
      have e06 : Ex H H6 := ExB.old (e1.trans e5) hnb b6
      repeat walk_at "st"
      intro t7 H7 ht7 e7 h7
      exact k H7 t7 nb far (e06.trans e7) h7 hnb hfar f1 f99 (DictC.ex e7 ⟨_, h6, R6, nd6⟩)
/-- _law_refuses -/
def spRefs (K : PySem.W.Frag) : Sp := fun vs H Q _ => ∃ (p h l : Addr) (ns ms : List (Str × Int)) (cs ds : List Cell) (x : Int) (zs : List Int), vs = [.ref p, .ref h, .ref l] ∧ HeapAt K H p ns cs ∧ HeapAt K H h ms ds ∧ (∀ c ∈ cs, CellIn c) ∧ (∀ c ∈ ds, CellIn c) ∧ H l = some (.lst ((x :: zs).map V.int)) ∧
  ((∀ met, Good ns cs met → ∃ r, lostL cs met = x :: r) ∨ ((∀ met, Good ns cs met → lostL cs met = []) ∧ ∀ mex, Good ms ds mex → ∃ r, lostL ds mex = x :: r)) ∧ ∀ H', Ex H H' → Q (.bl true) H'
theorem alk_refuse {K : PySem.W.Frag} {H : Hp} {Q : VK} {E : XK} {p q : Addr} {ns ms : List (Str × Int)} {cs ds : List Cell} {x : Int} (hA : HeapAt K H p ns cs) (hB : HeapAt K H q ms ds) (hi : ∀ c ∈ cs, CellIn c) (hj : ∀ c ∈ ds, CellIn c)
    (hlost : (∀ met, Good ns cs met → ∃ r, lostL cs met = x :: r) ∨ ((∀ met, Good ns cs met → lostL cs met = []) ∧ ∀ mex, Good ms ds mex → ∃ r, lostL ds mex = x :: r)) (kE : ∀ H' d, Ex H H' → H' d = some (xdA x) → E (eLost K) (some d) H') : spAlk K [.ref p, .ref q] H Q E := by
  refine ⟨p, q, ns, ms, cs, ds, rfl, hA, hB, hi, hj, fun met mex g1 l1 g2 l2 H' r e hr => ?_, fun met y r g1 l1 H' d e hd => ?_, fun met mex y r g1 l1 g2 l2 H' d e hd => ?_⟩
  · exfalso
    rcases hlost with h | ⟨_, h⟩
    · obtain ⟨r, e⟩ := h met g1
      rw [l1] at e
      cases e
    · obtain ⟨r, e⟩ := h mex g2
      rw [l2] at e
      cases e
  · rcases hlost with h | ⟨h, _⟩
    · obtain ⟨r', e'⟩ := h met g1
      rw [l1] at e'
      cases e'
      exact kE H' d e hd
    · have := h met g1
      rw [l1] at this
      cases this
  · rcases hlost with h | ⟨_, h⟩
    · obtain ⟨r', e'⟩ := h met g1
      rw [l1] at e'
      cases e'
    · obtain ⟨r', e'⟩ := h mex g2
      rw [l2] at e'
      cases e'
      exact kE H' d e hd
theorem c_l_refuses (Y : Ty P w K mg) (Z : ExLF K) : Cal P w K mg base CX0 10 "_law_refuses" ["heap", "other", "lost"] (spRefs K) := by
  have T := Y.T
  refine cal_mk T.D_l_refuses T.m__law_refuses sc_l_refuses (fun _ _ _ _ _ _ us hl => match us, hl with | [_, _, _], _ => rfl) (fun vs H Q E h => ?_) (fun f cdv A outer s H vs Q E hr h => ?_)
  · obtain ⟨p, q, l, ns, ms, cs, ds, x, zs, rfl, _⟩ := h
    rfl
  · obtain ⟨p, q, l, ns, ms, cs, ds, x, zs, rfl, hA, hB, hi, hj, hl, hlost, k⟩ := h
    refine ⟨_, ((pss_cons (L2N.ps_try_as (i := 3) rfl rfl sc_l_refuses.nd rfl rfl ⟨rfl, by decide, .inl T.m_HeapError⟩ takesF (fun W pn xe tk hp => (pss_one (ps_expr (by exact pe_calS (c_alike Y) hr (by decide) rfl tk (pa_cons (pv 0) (pa_cons (pv 1) pa_nil)))))) (fun a oe cls d pn hz hf => (pss_cons (ps_if (PW.pt (pw_or (pt_not (pt_val (by exact pe_callB (cr_isSu (K := K) rfl hz hf) rfl T.f_isinstance (by decide +kernel) (pa_cons (pv 3) (pa_cons (by exact C8.pe_gc rfl T.c_Lost) pa_nil))))) (pw_or1 (pt_not (pt_val (by exact pe_callB (cr_isSu (K := K) rfl hz hf) rfl T.f_isinstance (by decide +kernel) (pa_cons (pv 3) (pa_cons (pe_ty (n := "ValueError") rfl T.f_ValueError (by decide +kernel)) pa_nil)))))))) (pss_one (ps_ret pe_bl)) pss_nil)
  (pss_cons (ps_if (pt_val (by exact pe_callB (cr_isSuT (K := K) rfl hz hf) rfl T.f_isinstance (by decide +kernel) (pa_cons (pv 3) (pa_cons (pe_tup (pa_cons (by exact C8.pe_gc rfl T.c_BadHeap) (pa_cons (by exact C8.pe_gc rfl T.c_Clash) (pa_cons (by exact C8.pe_gc rfl T.c_NoName) (pa_cons (by exact C8.pe_gc rfl T.c_NotInHeap) (pa_cons (by exact C8.pe_gc rfl T.c_OtherNames) pa_nil)))))) pa_nil)))) (pss_one (ps_ret pe_bl)) pss_nil)
  (pss_one (ps_ret (by exact pe_sameS (q_l_same T) hr (by decide) hz hf rfl (pa_cons (by exact pe_xfSu (K := K) rfl hz hf (pv 3)) (pa_cons (pe_ix (ix_listK (K := K) rfl) (pv 2) pe_int (fun _ _ => rfl)) pa_nil)))))))))
  (pss_one (ps_ret pe_bl)))), ?_⟩
    dsimp only [cxOf, Cx.nox]
    refine k_callS ?_
    repeat walk_at "st"
    refine alk_refuse hA hB hi hj hlost fun H3 d3 e3 hd3 => ⟨true, Z.hm, fun _ a na => ?_, fun z => nomatch z⟩
    have hE : ExAt H3 (some d3) := .inr ⟨d3, _, rfl, hd3⟩
    repeat walk_at "st"
    refine ⟨He.ga K "Lost", rfl, Z.ec, _, _, true, rfl, hE, .own _, Z.lo, ?_⟩
    repeat walk_at "st"
    refine ⟨He.ga K "Lost", rfl, Z.ec, _, _, true, rfl, hE, .ty _, Z.val, ?_⟩
    repeat walk_at "st"
    intro t4 H4 ht4 e4 h4
    repeat walk_at "st"
    refine ⟨He.ga K "Lost", rfl, Z.ec, _, _, _, false, rfl, exm_ex e4 hE, h4, .cons (.own _) (.cons (.own _) (.cons (.own _) (.cons (.own _) (.cons (.own _) .nil)))), Z.no, ?_⟩
    repeat walk_at "st"
    refine k_callR ?_
    repeat walk_at "st"
    refine ⟨He.ga K "Lost", rfl, Z.x, Z.ad, ?_⟩
    refine k_xfQ ?_
    repeat walk_at "st"
    refine ⟨rfl, d3, _, .int x, rfl, e4.get hd3, by simp [List.lookup], ?_⟩
    repeat walk_at "st"
    exact ⟨_, _, .int x, rfl, .int x, .int x, rfl, by simp [wt], fun H' eH => k _ ((e3.trans e4).trans eH)⟩
end


/-! ### the renamed heap; the heap with a cell more -/
theorem reach_move {φ : Int → Int} {ms : List (Str × Int)} {ks : List Cell} (nd : ((ks.map (moveC φ)).map kC).Nodup) {a : Int} (r : Reach ms ks a) : Reach (moveN φ ms) (ks.map (moveC φ)) (φ a) := by
  induction r with
  | base n hn => exact Reach.base (ns := moveN φ ms) (n.1, φ n.2) (List.mem_map.mpr ⟨n, hn, rfl⟩)
  | step a c _ hc ih =>
    obtain ⟨q1, q2⟩ := cell_key hc
    have h := cell_in nd (List.mem_map_of_mem (f := moveC φ) q1)
    rw [show (moveC φ c).a = φ a from congrArg φ q2] at h
    exact Reach.step (φ a) (moveC φ c) ih h
theorem allR_move {φ : Int → Int} {ms : List (Str × Int)} {ks : List Cell} (nd : ((ks.map (moveC φ)).map kC).Nodup) (h : AllR ms ks) : AllR (moveN φ ms) (ks.map (moveC φ)) := fun c hc => by
  obtain ⟨d, hd, rfl⟩ := List.mem_map.mp hc
  exact reach_move nd (h d hd)
def badC (far : Int) : Cell := ⟨far, "c", far, 5⟩
theorem bad_in {far : Int} (h1 : 1 ≤ far) (h2 : far ≤ 99) : CellIn (badC far) := ⟨⟨h1, show far ≤ 9999 by omega⟩, show inV (.str "c") (marks.map V.str) = true by decide +kernel, ⟨show (0 : Int) ≤ far by omega, show far ≤ 9999 by omega⟩, ⟨show (1 : Int) ≤ 5 by decide, show (5 : Int) ≤ 12 by decide⟩, show PyData.strOk "c" = true by decide +kernel⟩
theorem head_all {L : List Int} {x : Int} (hm : x ∈ L) (h : ∀ y ∈ L, y = x) : ∃ r, L = x :: r := by
  cases L with
  | nil => cases hm
  | cons y r => exact ⟨r, by rw [h y List.mem_cons_self]⟩
theorem far_lost {ns ns' : List (Str × Int)} {xs cs : List Cell} {ps : List Int} {far : Int} (co : CsOk cs) (nd : (xs.map kC).Nodup) (hn : ∀ n, n ∈ ns' ↔ n ∈ ns) (hc : ∀ c, c ∈ cs ↔ c ∈ xs ++ [badC far]) (r : AllR ns xs) (v : ∀ n ∈ ns, n.2 ∈ ps) (l : ∀ c ∈ xs, c.a ∈ ps ∧ c.l ∈ ps) (hf : far ∉ ps) : ∀ met, Good ns' cs met → ∃ z, lostL cs met = far :: z := fun met g => by
  have key : ∀ a, Reach ns' cs a → a ∈ ps := fun a h => by
    induction h with
    | base n hm => exact v n ((hn n).mp hm)
    | step a c _ hca ih =>
      obtain ⟨q1, q2⟩ := cell_key hca
      rcases List.mem_append.mp ((hc c).mp q1) with h | h
      · exact (l c h).2
      · have e : c = badC far := by simpa using h
        rw [e] at q2
        exact absurd (show a ∈ ps from ih) (by rw [← q2]; exact hf)
  have hb : badC far ∈ cs := (hc _).mpr (List.mem_append_right _ (by simp))
  have hbk := cell_mem co hb
  refine head_all ?_ fun y hy => ?_
  · unfold lostL
    refine List.mem_map.mpr ⟨badC far, List.mem_filter.mpr ⟨hb, decide_eq_true fun z => ?_⟩, rfl⟩
    exact hf (key far ((g.iff hbk).mp z))
  · unfold lostL at hy
    obtain ⟨c, hcm, e⟩ := List.mem_map.mp hy
    obtain ⟨h1, h2⟩ := List.mem_filter.mp hcm
    have h2 := of_decide_eq_true h2
    rcases List.mem_append.mp ((hc c).mp h1) with h | h
    · refine absurd ((g.iff (cell_mem co h1)).mpr ?_) h2
      refine reach_sub (fun n => (hn n).symm) (fun a d hd _ => ?_) (r c h)
      obtain ⟨q1, q2⟩ := cell_key hd
      rw [← q2]
      exact cell_mem co ((hc d).mpr (List.mem_append_left _ q1))
    · have e2 : c = badC far := by simpa using h
      rw [← e, e2]
      rfl
/-- the dict that exchanges the addresses -/
theorem ren_of {kvt : List (L2.Key × V)} {ps fs : List Int} (len : fs.length = ps.length) (nd : ((0 : Int) :: ps).Nodup) (nf : ((0 : Int) :: fs).Nodup) (h0 : valV kvt (Sum.inl 0) = some (V.int 0)) (h : ∀ (j : Nat) (x y : Int), ps[j]? = some x → fs[ps.length - 1 - j]? = some y → valV kvt (Sum.inl x) = some (V.int y)) :
    ∃ φ : Int → Int, MapD kvt φ ((0 : Int) :: ps) ∧ φ 0 = 0 ∧ ∀ a ∈ ps, φ a ∈ fs := by
  obtain ⟨n1, n2⟩ := List.nodup_cons.mp nd
  obtain ⟨m1, m2⟩ := List.nodup_cons.mp nf
  let φ : Int → Int := fun a => match valV kvt (Sum.inl a) with | some (V.int v) => v | _ => 0
  have f0 : φ 0 = 0 := by
    show (match valV kvt (Sum.inl 0) with | some (V.int v) => v | _ => 0) = 0
    rw [h0]
  have key : ∀ a ∈ ps, ∃ j : Nat, j < ps.length ∧ ps[j]? = some a ∧ fs[ps.length - 1 - j]? = some (φ a) ∧ valV kvt (Sum.inl a) = some (V.int (φ a)) := fun a ha => by
    obtain ⟨j, hj⟩ := List.mem_iff_getElem?.mp ha
    have hlt : j < ps.length := (List.getElem?_eq_some_iff.mp hj).1
    have hy : fs[ps.length - 1 - j]? = some (fs[ps.length - 1 - j]'(by omega)) := List.getElem?_eq_getElem _
    have hv := h j a _ hj hy
    have e : φ a = fs[ps.length - 1 - j]'(by omega) := by
      show (match valV kvt (Sum.inl a) with | some (V.int v) => v | _ => 0) = _
      rw [hv]
    exact ⟨j, hlt, hj, by rw [e]; exact hy, by rw [e]; exact hv⟩
  refine ⟨φ, ⟨fun a ha => ?_, fun a ha b hb e => ?_⟩, f0, fun a ha => ?_⟩
  · rcases List.mem_cons.mp ha with z | z
    · rw [z, h0, f0]
    · obtain ⟨_, _, _, _, q⟩ := key a z
      exact q
  · rcases List.mem_cons.mp ha with z | z <;> rcases List.mem_cons.mp hb with y | y
    · rw [z, y]
    · obtain ⟨_, _, _, q, _⟩ := key b y
      rw [z, f0] at e
      exact absurd (List.mem_of_getElem? q) (by rw [← e]; exact m1)
    · obtain ⟨_, _, _, q, _⟩ := key a z
      rw [y, f0] at e
      exact absurd (List.mem_of_getElem? q) (by rw [e]; exact m1)
    · obtain ⟨i, hi, q1, q2, _⟩ := key a z
      obtain ⟨j, hj, p1, p2, _⟩ := key b y
      rw [e] at q2
      have w := (List.getElem?_inj (by omega) m2).mp (q2.trans p2.symm)
      have : i = j := by omega
      rw [this, p1] at q1
      exact (Option.some.inj q1).symm
  · obtain ⟨_, _, _, q, _⟩ := key a ha
    exact List.mem_of_getElem? q
/-- what is asked: two heaps, and what is due -/
def Ask (K : PySem.W.Frag) (q0 : Addr) (H : Hp) (v : V) : Prop := ∃ (t p h l : Addr) (ns ms : List (Str × Int)) (cs ds : List Cell) (x : Int) (zs : List Int), v = .ref t ∧ H t = some (.tup [.ref p, .ref h, .ref l]) ∧ HeapAt K H p ns cs ∧ HeapAt K H h ms ds ∧ (∀ c ∈ cs, CellIn c) ∧ (∀ c ∈ ds, CellIn c) ∧ l ≠ q0 ∧ H l = some (.lst ((x :: zs).map V.int)) ∧
  ((∀ met, Good ns cs met → ∃ r, lostL cs met = x :: r) ∨ ((∀ met, Good ns cs met → lostL cs met = []) ∧ ∀ mex, Good ms ds mex → ∃ r, lostL ds mex = x :: r))
theorem Ask.ex {K : PySem.W.Frag} {H H' : Hp} {q0 : Addr} (e : Ex H H') {v : V} (h : Ask K q0 H v) : Ask K q0 H' v := by
  obtain ⟨t, p, q, l, ns, ms, cs, ds, x, zs, e1, ht, hA, hB, i1, i2, nl, hl, o⟩ := h
  exact ⟨t, p, q, l, ns, ms, cs, ds, x, zs, e1, e.get ht, hA.ex e, hB.ex e, i1, i2, nl, e.get hl, o⟩
theorem Ask.exB {K : PySem.W.Frag} {H H' : Hp} {q0 : Addr} {xs : List V} (hq : H q0 = some (.lst xs)) (b : ExB q0 H H') {v : V} (h : Ask K q0 H v) : Ask K q0 H' v := by
  obtain ⟨t, p, q, l, ns, ms, cs, ds, x, zs, e1, ht, hA, hB, i1, i2, nl, hl, o⟩ := h
  have e := ExB.t b hq
  exact ⟨t, p, q, l, ns, ms, cs, ds, x, zs, e1, e _ _ (fun _ z => nomatch z) ht, hA.exT e, hB.exT e, i1, i2, nl, b _ _ nl hl, o⟩
theorem kept_len {H : Hp} {d : Addr} {ks xs : List Cell} (h : DictC H d ks) (s : ∀ c ∈ ks, c ∈ xs) : ks.length ≤ xs.length := by
  obtain ⟨_, _, _, nd⟩ := h
  have := nodup_le (ckeys nd) (l2 := xs.map (·.a)) (fun x hx => by
    obtain ⟨c, hc, e⟩ := List.mem_map.mp hx
    rw [← e]
    exact List.mem_map_of_mem (s c hc))
  rwa [List.length_map, List.length_map] at this
theorem lost_none {K : PySem.W.Frag} {H H' : Hp} {a b p : Addr} {ns ns' : List (Str × Int)} {xs cs : List Cell} (h : Part H a b ns xs) (r : AllR ns xs) (hA : HeapAt K H' p ns' cs) (hn : ∀ n, n ∈ ns' ↔ n ∈ ns) (hc : ∀ c, c ∈ cs ↔ c ∈ xs) : ∀ met, Good ns' cs met → lostL cs met = [] := fun _ g => lost_nil (made_kept h r hA hn hc) g
theorem lost_drawn {ns ms : List (Str × Int)} {cs cl xs : List Cell} {met : List Int} {x : Int} {zs : List Int} (co : CsOk cs) (cl0 : CsOk cl) (nd : (xs.map kC).Nodup) (hn : ∀ n, n ∈ ns ↔ n ∈ ms) (hc : ∀ c, c ∈ cs ↔ c ∈ xs) (hl : ∀ c, c ∈ cl ↔ c ∈ xs) (g : Good ms xs met) (e : lostL cl met = x :: zs) : ∀ mex, Good ns cs mex → ∃ r, lostL cs mex = x :: r := fun mex k => by
  have h1 : cs = cl := CsOk.uniq co cl0 fun c => (hc c).trans (hl c).symm
  have h2 : ∀ z, cellOf cs z = cellOf xs z := fun z => (rowAt_ext co.nd nd).mp hc (Sum.inl z)
  exact ⟨zs, by rw [lost_eq hn h2 co k g, h1, e]⟩


/-! ### law -/
def spLaw (K : PySem.W.Frag) : Sp := fun vs H Q _ => ∃ (a : Addr) (ns : List Int), vs = [.ref a] ∧ SqL K H a (ns.map V.int) ∧ ∀ H', Q (.bl true) H'
theorem Part.exB {H H' : Hp} {a b l : Addr} {ns : List (Str × Int)} {xs : List Cell} {o : HO} (hl : H l = some o) (hn : ∀ ys, o ≠ .tup ys) (n1 : a ≠ l) (n2 : b ≠ l) (e : ExB l H H') (h : Part H a b ns xs) : Part H' a b ns xs := by
  obtain ⟨kvs, h1, h2, h3⟩ := h.c
  exact ⟨DictN.exB n1 e h.n, h.ni, h.nl, ⟨kvs, e _ _ n2 h1, h2.mono fun c v ⟨t, ev, ht⟩ => ⟨t, ev, e _ _ (fun z => by rw [z, hl] at ht; exact hn _ (Option.some.inj ht)) ht⟩, h3⟩, h.ci, h.cl, h.ab⟩
theorem ThD.start : ThD [(Sum.inl 0, V.int 0)] [((0 : Int), (0 : Int))] := ⟨fun p h => by rw [List.mem_singleton.mp h]; rfl, fun x v h => by
  unfold valV at h
  simp only [List.find?_cons, List.find?_nil] at h
  by_cases e : (0 : Int) = x
  · subst e
    simp at h
    exact ⟨(0, 0), List.mem_singleton.mpr rfl, rfl, h.symm⟩
  · simp [e] at h, by simp⟩
section
variable {P : Program} {w : World} {K : PySem.W.Frag} {mg : Str → Option Value} {base : Heap}
theorem law_mk {CX : CXT} {k : Nat} {x qual : Str} {params : Arguments} {body : List Stmt} {scope : Scope} {N ps : List Str} {sp : Sp} {f : Addr} {fd : FuncData} (F : FunD K x qual params body scope [] [] f fd) (S : FnScope N ps scope) (len : ∀ vs H Q E, sp vs H Q E → vs.length = ps.length)
    (hbody : ∀ (f : Addr) (cdv : Value) (A : Around) (outer : List Env) (s : Shared) (H : Hp) (vs : List V) (Q : VK) (E : XK), Room k (A.deeper (envOfC qual scope s.heap.objs.size f cdv)) → sp vs H Q E →
      ∃ t, PSs (cxOf CX P w K mg base N qual scope f cdv A outer s H E).nox body t ∧ t { nx := fun _ H' => Q .non H', rt := Q } (start N vs) H) : FnOk P w K mg base CX (k + 1) f fd ps sp :=
  F.ok S len fun cdv A outer s H vs Q E hr h => let ⟨t, ht, q⟩ := hbody f cdv A outer s H vs Q E hr h; ⟨t, ht.nox, q⟩
theorem c_law (Y : Ty P w K mg) (Z : ExLF K) {fl : Addr} {fd : FuncData} (F : FunD K "law" "law" (defArgs s_law) (defBody s_law) (defScope s_law) [] [] fl fd) : FnOk P w K mg base CX0 11 fl fd ["script"] (spLaw K) := by
  have T := Y.T
  refine law_mk F sc_law (fun vs H Q E h => ?_) (fun f cdv A outer s H vs Q E hr h => ?_)
  · obtain ⟨a, ns, rfl, _⟩ := h
    rfl
  · obtain ⟨a, sc, rfl, hS, k⟩ := h
    have hu := hu_of hr
    refine ⟨_, ((pss_cons (ps_set (i := 1) sc_law.nd rfl (Or.inl rfl) (by exact pe_cal (c_l_pool T) hr (by decide) rfl pass0 (pa_cons (pv 0) pa_nil)))
  (pss_cons (ps_asg (by exact pe_cal (c_l_drawn T) hr (by decide) rfl pass0 (pa_cons (pv 1) pa_nil)) (pg_tup (n := 3) rfl (pgs_cons (pg_name (i := 2) sc_law.nd rfl (Or.inl rfl)) (pgs_cons (pg_name (i := 3) sc_law.nd rfl (Or.inl rfl)) (pgs_cons (pg_name (i := 4) sc_law.nd rfl (Or.inl rfl)) pgs_nil)))))
  (pss_cons (ps_par (i := 5) (j := 6) rfl sc_law.nd rfl rfl (by decide) rfl rfl (pa_cons (pe_cmpR op_eq (by exact pe_cal (c_l_draw T) hr (by decide) rfl pass0 (pa_cons (pv 1) (pa_cons pe_int pa_nil))) pe_int (nomark _)) (pa_cons (pe_lst pa_nil) pa_nil)) rfl)
  (pss_cons (ps_for PassesOwn.never rfl (pi_range1 rfl T.f_range (pa_cons pe_int pa_nil)) (pg_name (i := 7) sc_law.nd rfl (Or.inl rfl)) (pss_one (ps_expr (pe_bm PySem.F.plainAttrs_list PySem.F.slot_list_append PySem.F.type_list_append mt_append (pv 6) (pa_cons (pe_op o_add (pv 7) (by exact pe_cal (c_l_draw T) hr (by decide) rfl pass0 (pa_cons (pv 1) (pa_cons pe_int pa_nil)))) pa_nil)))))
  (pss_cons (ps_set (i := 8) sc_law.nd rfl (Or.inl rfl) (by exact pe_cal (c_l_kept T) hr (by decide) rfl pass0 (pa_cons (pv 2) (pa_cons (pv 3) pa_nil))))
  (pss_cons (ps_par (i := 9) (j := 10) rfl sc_law.nd rfl rfl (by decide) rfl rfl (pa_cons (by exact pe_cal (c_l_places T) hr (by decide) rfl pass0 (pa_cons (pv 1) (pa_cons (pe_op o_sub (pe_callB cr_len rfl T.f_len (by decide +kernel) (pa_cons (pv 4) pa_nil)) pe_int) pa_nil))) (pa_cons (pe_disp (pps_cons pe_int pe_int pps_nil) rfl rfl (List.cons_ne_nil _ _) (by decide)) pa_nil)) rfl)
  (pss_cons (ps_for PassesOwn.never rfl (pi_range2 rfl T.f_range (pa_cons pe_int (pa_cons (pe_callB cr_len rfl T.f_len (by decide +kernel) (pa_cons (pv 4) pa_nil)) pa_nil))) (pg_name (i := 11) sc_law.nd rfl (Or.inl rfl)) (pss_one (ps_dput hu (pv 10) (pe_ix (ix_listK (K := K) rfl) (pv 4) (pv 11) (fun _ _ => rfl)) (pe_ix (ix_listK (K := K) rfl) (pv 9) (pe_op o_sub (pe_callB cr_len rfl T.f_len (by decide +kernel) (pa_cons (pv 4) pa_nil)) (pv 11)) (fun _ _ => rfl)) rfl)))
  (pss_cons (ps_asg (by exact pe_cal (c_l_moved T) hr (by decide) rfl pass0 (pa_cons (pv 2) (pa_cons (pv 8) (pa_cons (pv 10) pa_nil)))) (pg_tup (n := 2) rfl (pgs_cons (pg_name (i := 12) sc_law.nd rfl (Or.inl rfl)) (pgs_cons (pg_name (i := 13) sc_law.nd rfl (Or.inl rfl)) pgs_nil))))
  (pss_cons (ps_if (pt_not (pt_val (by exact pe_cal (c_l_pair Y) hr (by decide) rfl pass0 (pa_cons (pv 2) (pa_cons (pv 8) (pa_cons (pv 12) (pa_cons (pv 13) (pa_cons (pv 5) pa_nil)))))))) (pss_one (ps_ret pe_bl)) pss_nil)
  (pss_cons (ps_for PassesOwn.never rfl (pi_range1 rfl T.f_range (pa_cons pe_int pa_nil)) (pg_name (i := 7) sc_law.nd rfl (Or.inl rfl)) (pss_cons (ps_set (i := 14) sc_law.nd rfl (Or.inl rfl) (pe_ix (ix_listK (K := K) rfl) (pv 6) (pv 7) (fun _ _ => rfl)))
  (pss_cons (ps_asg (by exact pe_cal (c_l_bent T) hr (by decide) rfl pass0 (pa_cons (pv 2) (pa_cons (pv 8) (pa_cons (pv 4) (pa_cons (pv 7) (pa_cons (pv 14) pa_nil)))))) (pg_tup (n := 2) rfl (pgs_cons (pg_name (i := 15) sc_law.nd rfl (Or.inl rfl)) (pgs_cons (pg_name (i := 16) sc_law.nd rfl (Or.inl rfl)) pgs_nil))))
  (pss_cons (ps_set (i := 16) sc_law.nd rfl (Or.inl rfl) (by exact pe_cal (c_l_kept T) hr (by decide) rfl pass0 (pa_cons (pv 15) (pa_cons (pv 16) pa_nil))))
  (pss_one (ps_if (pt_not (pt_val (by exact pe_cal (c_l_pair Y) hr (by decide) rfl pass0 (pa_cons (pv 15) (pa_cons (pv 16) (pa_cons (pv 12) (pa_cons (pv 13) (pa_cons (pv 5) pa_nil)))))))) (pss_one (ps_ret pe_bl)) pss_nil))))))
  (pss_cons (ps_set (i := 17) sc_law.nd rfl (Or.inl rfl) (by exact pe_cal (c_l_made T) hr (by decide) rfl pass0 (pa_cons (pv 2) (pa_cons (pv 8) (pa_cons (pv 5) pa_nil)))))
  (pss_cons (ps_set (i := 18) sc_law.nd rfl (Or.inl rfl) (by exact pe_cal (c_l_made T) hr (by decide) rfl pass0 (pa_cons (pv 12) (pa_cons (pv 13) (pa_cons (pv 5) pa_nil)))))
  (pss_cons (ps_asg (by exact pe_cal (c_l_far T) hr (by decide) rfl pass0 (pa_cons (pv 8) (pa_cons (pv 4) pa_nil))) (pg_tup (n := 2) rfl (pgs_cons (pg_name (i := 19) sc_law.nd rfl (Or.inl rfl)) (pgs_cons (pg_name (i := 20) sc_law.nd rfl (Or.inl rfl)) pgs_nil))))
  (pss_cons (ps_asg (by exact pe_cal (c_l_far T) hr (by decide) rfl pass0 (pa_cons (pv 13) (pa_cons (pe_op op_cat (pv 9) (pe_lst (pa_cons (pv 19) pa_nil))) pa_nil))) (pg_tup (n := 2) rfl (pgs_cons (pg_name (i := 21) sc_law.nd rfl (Or.inl rfl)) (pgs_cons (pg_name (i := 22) sc_law.nd rfl (Or.inl rfl)) pgs_nil))))
  (pss_cons (ps_set (i := 23) sc_law.nd rfl (Or.inl rfl) (by exact pe_cal (c_l_made T) hr (by decide) rfl pass0 (pa_cons (pv 2) (pa_cons (pv 20) (pa_cons (pv 5) pa_nil)))))
  (pss_cons (ps_set (i := 24) sc_law.nd rfl (Or.inl rfl) (by exact pe_cal (c_l_made T) hr (by decide) rfl pass0 (pa_cons (pv 12) (pa_cons (pv 22) (pa_cons (pv 5) pa_nil)))))
  (pss_cons (ps_set (i := 25) sc_law.nd rfl (Or.inl rfl) (pe_lst (pa_cons (pe_tup (pa_cons (pv 23) (pa_cons (pv 18) (pa_cons (pe_lst (pa_cons (pv 19) pa_nil)) pa_nil)))) (pa_cons (pe_tup (pa_cons (pv 18) (pa_cons (pv 23) (pa_cons (pe_lst (pa_cons (pv 19) pa_nil)) pa_nil)))) pa_nil))))
  (pss_cons (ps_set (i := 25) sc_law.nd rfl (Or.inl rfl) (pe_op op_cat (pv 25) (pe_lst (pa_cons (pe_tup (pa_cons (pv 23) (pa_cons (pv 24) (pa_cons (pe_lst (pa_cons (pv 19) pa_nil)) pa_nil)))) (pa_cons (pe_tup (pa_cons (pv 24) (pa_cons (pv 23) (pa_cons (pe_lst (pa_cons (pv 21) pa_nil)) pa_nil)))) pa_nil)))))
  (pss_cons (ps_expr (pe_bm PySem.F.plainAttrs_list PySem.F.slot_list_append PySem.F.type_list_append mt_append (pv 25) (pa_cons (pe_tup (pa_cons (pv 17) (pa_cons (pv 24) (pa_cons (pe_lst (pa_cons (pv 21) pa_nil)) pa_nil)))) pa_nil)))
  (pss_cons (ps_set (i := 26) sc_law.nd rfl (Or.inl rfl) (by exact pe_cal (c_l_lost T) hr (by decide) rfl pass0 (pa_cons (pv 2) (pa_cons (pv 3) pa_nil))))
  (pss_cons (ps_if (pt_cmpR o_gt (pe_callB cr_len rfl T.f_len (by decide +kernel) (pa_cons (pv 26) pa_nil)) pe_int (nomark _)) (pss_one (ps_expr (pe_bm PySem.F.plainAttrs_list PySem.F.slot_list_append PySem.F.type_list_append mt_append (pv 25) (pa_cons (pe_tup (pa_cons (by exact pe_cal (c_l_made T) hr (by decide) rfl pass0 (pa_cons (pv 2) (pa_cons (pv 3) (pa_cons (pv 5) pa_nil)))) (pa_cons (pv 24) (pa_cons (pv 26) pa_nil)))) pa_nil)))) pss_nil)
  (pss_cons (ps_for PassesOwn.never rfl (pi_list (pv 25)) (pg_tup (n := 3) rfl (pgs_cons (pg_name (i := 27) sc_law.nd rfl (Or.inl rfl)) (pgs_cons (pg_name (i := 28) sc_law.nd rfl (Or.inl rfl)) (pgs_cons (pg_name (i := 29) sc_law.nd rfl (Or.inl rfl)) pgs_nil)))) (pss_one (ps_if (pt_not (pt_val (by exact pe_cal (c_l_refuses Y Z) hr (by decide) rfl pass0 (pa_cons (pv 27) (pa_cons (pv 28) (pa_cons (pv 29) pa_nil)))))) (pss_one (ps_ret pe_bl)) pss_nil)))
  (pss_one (ps_ret (by exact pe_cal (c_l_pair Y) hr (by decide) rfl pass0 (pa_cons (pv 2) (pa_cons (pv 8) (pa_cons (pv 12) (pa_cons (pv 13) (pa_cons (pe_not (pv 5)) pa_nil))))))))))))))))))))))))))))))), ?_⟩
    dsimp only [cxOf, Cx.nox]
    repeat walk_at "st"
    refine ⟨a, sc, rfl, hS, fun p H1 e1 hp P1 => ?_⟩
    repeat walk_at "st"
    refine ⟨p, rfl, P1, fun H2 t na ca la ms xs pl b2 P2 ht D => ?_⟩
    repeat walk_at "st"
    have nlp : la ≠ p := npool P1 D.fresh.2.2
    refine ⟨p, 2, rfl, P2, by decide, fun r3 H3 r30 r31 P3 b3 => ?_⟩
    have hN3 := D.names.exP P2 b3
    have hC3 := D.cells.exP P2 b3
    have hL3 := b3 _ _ nlp D.pls
    have hml : ms.length ≤ 8 := D.nl
    have hxl : xs.length ≤ 58 := D.cl
    obtain ⟨ps, epl, prg, pl60, pl2, _⟩ := D.plc
    clear ht
    repeat walk_at "st"
    generalize decide (V.int r3 = V.int 1) = tu
    intro q4 H4 hq4 e4 h4
    repeat walk_at "st"
    have nq4 : q4 ≠ p := npool P3 hq4
    refine for_range (lo := 0) (fun i σ' H' => ∃ v7 rs, σ' = [some (.ref a), some (.ref p), some (.ref na), some (.ref ca), some (.ref la), some (.bl tu), some (.ref q4), v7] ++ List.replicate 22 none ∧ ExB p H3 H' ∧ Pool H' p ∧ H' q4 = some (.lst (rs.map V.int)) ∧ rs.length = i) ⟨none, [], rfl, ExB.of e4, P3.ex e4, h4, rfl⟩ (fun i σ' H5 hi ⟨v7, rs, es, b5, P5, h5, l5⟩ => ?_) (fun σ' H5 ⟨v7, rs, es, b5, P5, h5, l5⟩ => ?_)
    · subst es
      dsimp only [List.replicate, List.cons_append, List.nil_append]
      repeat walk_at "st"
      refine ⟨p, 60, rfl, P5, by decide, fun r5 H6 r50 r51 P6 b6 => ?_⟩
      have h6 := b6 _ _ nq4 h5
      repeat walk_at "st"
      intro H7 b7 h7
      have ehd : rs.map V.int ++ [V.int (0 + (i : Int) + r5)] = (rs ++ [0 + (i : Int) + r5]).map V.int := by rw [List.map_append]; rfl
      rw [ehd] at h7
      exact ⟨_, rs ++ [0 + (i : Int) + r5], rfl, ExB.skip (b5.trans b6) hq4 b7, P6.exB (Ne.symm nq4) b7, h7, by rw [List.length_append, l5]; rfl⟩
    · subst es
      dsimp only [List.replicate, List.cons_append, List.nil_append]
      have hN5 := hN3.exP P3 b5
      have hC5 := hC3.exP P3 b5
      have hL5 := b5 _ _ nlp hL3
      have nd : (xs.map kC).Nodup := by
        obtain ⟨_, _, _, q⟩ := hC5
        exact q
      clear hN3 hC3 hL3
      repeat walk_at "st"
      refine ⟨na, ca, ms, xs, rfl, hN5, by omega, hC5, by omega, D.ne, fun H6 kd ks e6 hkd hks KC => ?_⟩
      have hN6 := hN5.ex e6
      have hL6 := e6.get hL5
      have h6 := e6.get h5
      have hC6 := hC5.ex e6
      have nak : na ≠ kd := fun z => by rw [← z, hN5.1] at hkd; cases hkd
      have ksl : ks.length ≤ 58 := by
        have := part_len (ql := pl) (pl := xs.map (·.a)) hks (fun c hc => ⟨⟨D.cin c (KC.sub c hc), (D.cin2 c (KC.sub c hc)).2⟩, List.mem_map_of_mem (KC.sub c hc)⟩)
        rw [List.length_map] at this
        omega
      have Pk : Part H6 na kd ms ks := ⟨hN6, D.nin, by omega, hks, fun c hc => D.cin c (KC.sub c hc), by omega, nak⟩
      have P6 := P5.ex e6
      subst epl
      repeat walk_at "st"
      refine ⟨p, _, rfl, P6, by rw [List.length_map, List.length_cons]; omega, by rw [List.length_map, List.length_cons]; omega, fun H7 fl2 fs b7 P7 hfl h7 lf nf gf => ?_⟩
      rw [List.length_map, List.length_cons] at lf
      have lf : fs.length = ps.length := by omega
      repeat walk_at "st"
      refine k_disp1 (k := Sum.inl 0) (v := .int 0) (fun _ _ h => h) (fun _ _ h => h) fun td H8 htd e8 h8 => ?_
      have b68 : ExB p H6 H8 := b7.trans (ExB.of e8)
      have hN8 := (hN6.exP P6 b7).ex e8
      have hK8 : DictC H8 kd ks := (hks.exP P6 b7).ex e8
      have hC8 := (hC6.exP P6 b7).ex e8
      have hL8 := e8.get (b7 _ _ nlp hL6)
      have hF8 := e8.get h7
      have hQ8 := e8.get (b7 _ _ nq4 h6)
      have hN7 := hN6.exP P6 b7
      have hK7 := hks.exP P6 b7
      have hL7 := b7 _ _ nlp hL6
      have hQ7 := b7 _ _ nq4 h6
      have hC7 := hC6.exP P6 b7
      have nat : na ≠ td := fun z => by rw [← z, hN7.1] at htd; cases htd
      have nlt : la ≠ td := fun z => by rw [← z, hL7] at htd; cases htd
      have nft : fl2 ≠ td := fun z => by rw [← z, h7] at htd; cases htd
      have nkt : kd ≠ td := fun z => by
        obtain ⟨_, q, _⟩ := hK7
        rw [← z, q] at htd
        cases htd
      repeat walk_at "st"
      refine k_rng2 ?_
      repeat walk_at "st"
      refine ⟨1, _, rfl, ⟨by decide, by decide, Int.le_trans (show -(2 ^ 62 : Int) ≤ 0 by decide) (Int.natCast_nonneg _), by rw [List.length_map, List.length_cons]; exact Int.lt_of_le_of_lt (show ((ps.length + 1 : Nat) : Int) ≤ 81 by omega) (by decide)⟩, ?_⟩
      rw [show (((((0 : Int) :: ps).map V.int).length : Int) - 1).toNat = ps.length by rw [List.length_map, List.length_cons]; omega]
      refine for_range (lo := 1) (fun i σ' H' => ∃ v11 kvt T, σ' = [some (.ref a), some (.ref p), some (.ref na), some (.ref ca), some (.ref la), some (.bl tu), some (.ref q4), v7, some (.ref kd), some (.ref fl2), some (.ref td), v11] ++ List.replicate 18 none ∧ ExB td H8 H' ∧ H' td = some (.dK kvt) ∧ ThD kvt T ∧ T.length = i + 1 ∧ (∀ q ∈ T, q.1 ∈ (0 : Int) :: ps.take i) ∧ (0, 0) ∈ T ∧ ∀ (j : Nat) (x y : Int), j < i → ps[j]? = some x → fs[ps.length - 1 - j]? = some y → (x, y) ∈ T) ⟨none, _, [(0, 0)], rfl, ExB.of (Ex.refl _), h8, ThD.start, rfl, ?_, ?_, ?_⟩ (fun i σ' H9 hi ⟨v11, kvt, T1, es, b9, h9, th, tl, tk, t0, tj⟩ => ?_) (fun σ' H9 ⟨v11, kvt, T1, es, b9, h9, th, tl, tk, t0, tj⟩ => ?_)
      · intro q hq
        rw [List.mem_singleton.mp hq]
        exact List.mem_cons_self
      · exact List.mem_cons_self
      · intro j x y hj
        omega
      · subst es
        dsimp only [List.replicate, List.cons_append, List.nil_append]
        have hip : i < ps.length := hi
        obtain ⟨y, hy⟩ : ∃ y, fs[ps.length - 1 - i]? = some y := ⟨_, List.getElem?_eq_getElem (by omega)⟩
        obtain ⟨x, hx⟩ : ∃ x, ps[i]? = some x := ⟨_, List.getElem?_eq_getElem hip⟩
        have hpa : atI (((0 : Int) :: ps).map V.int) (1 + (i : Int)) = some (.int x) := atI_of (by omega) (by
          rw [show (1 + (i : Int)).toNat = i + 1 by omega, List.getElem?_map, List.getElem?_cons_succ, hx]
          rfl)
        have hfa : atI (((0 : Int) :: fs).map V.int) (((((0 : Int) :: ps).map V.int).length : Int) - (1 + (i : Int))) = some (.int y) := atI_of (by rw [List.length_map, List.length_cons]; omega) (by
          rw [show (((((0 : Int) :: ps).map V.int).length : Int) - (1 + (i : Int))).toNat = (ps.length - 1 - i) + 1 by rw [List.length_map, List.length_cons]; omega, List.getElem?_map, List.getElem?_cons_succ, hy]
          rfl)
        have hL9 := b9 _ _ nlt hL8
        have hF9 := b9 _ _ nft hF8
        repeat walk_at "st"
        refine k_ixL (.inl (.inl hF9)) hfa ?_
        repeat walk_at "st"
        refine k_ixL (.inl (.inl hL9)) hpa ?_
        repeat walk_at "st"
        have kl := th.2.2
        refine k_dputE (k := Sum.inl x) rfl h9 (by rw [sizeLine_eq]; omega) fun H10 b10 h10 => ?_
        refine ⟨_, _, T1 ++ [(x, y)], rfl, b9.trans b10, h10, th.put (fun q hq z => ?_), by rw [List.length_append, tl]; rfl, fun q hq => ?_, List.mem_append_left _ t0, fun j x' y' hj hx' hy' => ?_⟩
        · obtain ⟨n1, n2⟩ := List.nodup_cons.mp D.pnd
          rcases List.mem_cons.mp (tk q hq) with w | w
          · exact n1 (by rw [← w, z]; exact List.mem_of_getElem? hx)
          · exact take_nodup n2 hx (z ▸ w)
        · rcases List.mem_append.mp hq with w | w
          · rcases List.mem_cons.mp (tk q w) with u | u
            · rw [u]; exact List.mem_cons_self
            · refine List.mem_cons_of_mem _ ?_
              rw [List.take_add_one]
              exact List.mem_append_left _ u
          · rw [List.mem_singleton.mp w]
            refine List.mem_cons_of_mem _ ?_
            rw [List.take_add_one, hx]
            exact List.mem_append_right _ (by simp)
        · by_cases e : j < i
          · exact List.mem_append_left _ (tj j x' y' e hx' hy')
          · have : j = i := by omega
            subst this
            rw [hx] at hx'
            rw [hy] at hy'
            cases hx'
            cases hy'
            exact List.mem_append_right _ (by simp)
      · subst es
        dsimp only [List.replicate, List.cons_append, List.nil_append]
        obtain ⟨φ, MD, f0, fim⟩ := ren_of (kvt := kvt) lf D.pnd nf (th.1 _ t0) (fun j x y hx hy => th.1 (x, y) (tj j x y (by
          exact (List.getElem?_eq_some_iff.mp hx).1) hx hy))
        have hN9 := DictN.exB nat b9 hN8
        have hK9 : DictC H9 kd ks := DictC.exB h8 nkt b9 hK8
        have hL9 := b9 _ _ nlt hL8
        have hF9 := b9 _ _ nft hF8
        have cin2 : ∀ c ∈ ks, c.a ∈ (0 : Int) :: ps ∧ c.l ∈ (0 : Int) :: ps := fun c hc => D.cin2 c (KC.sub c hc)
        have Pk9 : Part H9 na kd ms ks := ⟨hN9, Pk.ni, Pk.nl, hK9, Pk.ci, Pk.cl, nak⟩
        repeat walk_at "st"
        refine ⟨na, kd, td, ms, ks, kvt, φ, (0 : Int) :: ps, rfl, hN9, by omega, hK9, by omega, nak, nat, nkt, h9, MD, D.nin2, cin2, fun H10 t10 m2 r2 e10 h10 hm2 hr2 nmr hN2 hC2 => ?_⟩
        repeat walk_at "st"
        have fr : ∀ a ∈ (0 : Int) :: ps, 0 ≤ φ a ∧ φ a ≤ 9999 := fun a ha => by
          rcases List.mem_cons.mp ha with z | z
          · rw [z, f0]; omega
          · have := gf _ (fim a z); omega
        have hpsa : ∀ c ∈ ks, c.a ∈ ps := fun c hc => by
          rcases List.mem_cons.mp (cin2 c hc).1 with z | z
          · have := (Pk.ci c hc).1.1
            omega
          · exact z
        have Pm : Part H10 m2 r2 (moveN φ ms) (ks.map (moveC φ)) := ⟨hN2, fun n hn => by
          obtain ⟨m, hm, rfl⟩ := List.mem_map.mp hn
          have g := D.nin m hm
          have r := fr _ (D.nin2 m hm)
          exact ⟨g.1, g.2.1, r.1, r.2, g.2.2.2.2⟩, by unfold moveN; rw [List.length_map]; omega, hC2, fun c hc => by
          obtain ⟨d, hd, rfl⟩ := List.mem_map.mp hc
          have g := Pk.ci d hd
          exact ⟨gf _ (fim _ (hpsa d hd)), g.2.1, fr _ (cin2 d hd).2, g.2.2.2⟩, by rw [List.length_map]; omega, nmr⟩
        have Ak : AllR ms ks := KC.rch
        have Am : AllR (moveN φ ms) (ks.map (moveC φ)) := by
          obtain ⟨_, _, _, q⟩ := hC2
          exact allR_move q Ak
        have nam : na ≠ m2 := fun z => by rw [← z, hN9.1] at hm2; cases hm2
        refine ⟨na, kd, m2, r2, tu, ms, moveN φ ms, ks, ks.map (moveC φ), rfl, Pk9.ex e10, Pm, nam, Ak, Am, fun H11 e11 => ?_⟩
        repeat walk_at "st"
        have e911 := e10.trans e11
        have Pk11 := Pk9.ex e911
        have Pm11 := Pm.ex e11
        have hL11 := e911.get hL9
        have hF11 := e911.get hF9
        have nqt : q4 ≠ td := fun z => by rw [← z, hQ7] at htd; cases htd
        have nct : ca ≠ td := fun z => by
          obtain ⟨_, q, _⟩ := hC7
          rw [← z, q] at htd
          cases htd
        have hQ11 := e911.get (b9 _ _ nqt hQ8)
        have hC11 : DictC H11 ca xs := (DictC.exB h8 nct b9 hC8).ex e911
        clear hN2 hC2 hN8 hN9 hK8 hK9 hC8 hL8 hL9 hF8 hF9 hQ8 hL7 hQ7 hC7 hK7 hN7
        have prg2 : ∀ q ∈ (0 : Int) :: ps, 0 ≤ q ∧ q ≤ 9999 := fun q hq => by
          rcases List.mem_cons.mp hq with w | w
          · omega
          · have := prg q w; omega
        refine for_range (lo := 0) (fun i σ' H' => ∃ v7 v14 v15 v16, σ' = [some (.ref a), some (.ref p), some (.ref na), some (.ref ca), some (.ref la), some (.bl tu), some (.ref q4), v7, some (.ref kd), some (.ref fl2), some (.ref td), v11, some (.ref m2), some (.ref r2), v14, v15, v16] ++ List.replicate 13 none ∧ Ex H11 H') ⟨_, none, none, none, rfl, Ex.refl _⟩ (fun i σ' H12 hi ⟨v7, v14, v15, v16, es, e12⟩ => ?_) (fun σ' H12 ⟨v7, v14, v15, v16, es, e12⟩ => ?_)
        · subst es
          dsimp only [List.replicate, List.cons_append, List.nil_append]
          have hQ12 := e12.get hQ11
          have hL12 := e12.get hL11
          obtain ⟨pick, hpk⟩ : ∃ pick, rs[i]? = some pick := ⟨_, List.getElem?_eq_getElem (by omega)⟩
          have hpa : atI (rs.map V.int) (0 + (i : Int)) = some (.int pick) := atI_of (by omega) (by
            rw [show (0 + (i : Int)).toNat = i by omega, List.getElem?_map, hpk]
            rfl)
          repeat walk_at "st"
          refine k_ixL (.inl (.inl hQ12)) hpa ?_
          repeat walk_at "st"
          refine ⟨na, kd, la, _, _, ms, ks, (0 : Int) :: ps, rfl, Pk11.ex e12, by omega, by omega, hL12, List.cons_ne_nil _ _, by rw [List.length_cons]; omega, prg2, fun H13 t13 a' b' ns' xs' e13 h13 ha' hb' Pt => ?_⟩
          repeat walk_at "st"
          refine ⟨a', b', ns', xs', rfl, Pt.n, Pt.nl, Pt.c, Pt.cl, Pt.ab, fun H14 d' ks' e14 hd' hks' KC' => ?_⟩
          have nad : a' ≠ d' := fun z => by rw [← z, Pt.n.1] at hd'; cases hd'
          have nam' : a' ≠ m2 := fun z => by rw [z, (Pm11.ex e12).n.1] at ha'; cases ha'
          have kl := kept_len hks' KC'.sub
          have xl := Pt.cl
          repeat walk_at "st"
          refine ⟨a', d', m2, r2, tu, ns', moveN φ ms, ks', ks.map (moveC φ), rfl, ⟨Pt.n.ex e14, Pt.ni, Pt.nl, hks', fun c hc => Pt.ci c (KC'.sub c hc), by omega, nad⟩, Pm11.ex (e12.trans (e13.trans e14)), nam', KC'.rch, Am, fun H15 e15 => ?_⟩
          repeat walk_at "st"
          exact ⟨_, _, _, _, rfl, e12.trans (e13.trans (e14.trans e15))⟩
        · subst es
          dsimp only [List.replicate, List.cons_append, List.nil_append]
          have Pk12 := Pk11.ex e12
          have Pm12 := Pm11.ex e12
          have hL12 := e12.get hL11
          have hF12 := e12.get hF11
          have hC12 := hC11.ex e12
          repeat walk_at "st"
          refine ⟨na, kd, tu, ms, ks, rfl, Pk12.n, Pk12.ni, Pk12.nl, Pk12.c, Pk12.ci, Pk12.cl, nak, fun H13 pg ng cg e13 hAg hng hcg => ?_⟩
          repeat walk_at "st"
          refine ⟨m2, r2, tu, moveN φ ms, ks.map (moveC φ), rfl, (Pm12.ex e13).n, Pm12.ni, Pm12.nl, (Pm12.ex e13).c, Pm12.ci, Pm12.cl, nmr, fun H14 po no co e14 hAo hno hco => ?_⟩
          have e1214 := e13.trans e14
          have Pk14 := Pk12.ex e1214
          have Pm14 := Pm12.ex e1214
          have hL14 := e1214.get hL12
          have hF14 := e1214.get hF12
          repeat walk_at "st"
          refine ⟨kd, la, ks, (0 : Int) :: ps, rfl, Pk14.c, by omega, fun c hc => (cin2 c hc).1, hL14, by rw [List.length_cons]; omega, fun H15 t15 b15 far e15 h15 hb15 nf15 f1 f2 hD15 => ?_⟩
          have hF15 := e15.get hF14
          repeat walk_at "st"
          intro q16 H16 hq16 e16 h16
          repeat walk_at "st"
          have h16 : H16 q16 = some (.lst ([far].map V.int)) := h16
          refine k_cat (e16.get hF15) h16 (by rw [List.length_map, List.length_map, List.length_cons, sizeLine_eq]; simp; omega) fun l17 H17 hl17 e17 h17 => ?_
          rw [← List.map_append] at h17
          have e1417 := e15.trans (e16.trans e17)
          have Pk17 := Pk14.ex e1417
          have Pm17 := Pm14.ex e1417
          have hD17 := hD15.ex (e16.trans e17)
          have phin : ∀ x ∈ (0 : Int) :: ps, φ x ∈ (0 : Int) :: fs := fun x hx => by
            rcases List.mem_cons.mp hx with z | z
            · rw [z, f0]; exact List.mem_cons_self
            · exact List.mem_cons_of_mem _ (fim x z)
          have cin3 : ∀ c ∈ ks.map (moveC φ), c.a ∈ ((0 : Int) :: fs) ++ [far] ∧ c.l ∈ ((0 : Int) :: fs) ++ [far] := fun c hc => by
            obtain ⟨d, hd, rfl⟩ := List.mem_map.mp hc
            exact ⟨List.mem_append_left _ (phin _ (cin2 d hd).1), List.mem_append_left _ (phin _ (cin2 d hd).2)⟩
          have nin3 : ∀ n ∈ moveN φ ms, n.2 ∈ ((0 : Int) :: fs) ++ [far] := fun n hn => by
            obtain ⟨m, hm, rfl⟩ := List.mem_map.mp hn
            exact List.mem_append_left _ (phin _ (D.nin2 m hm))
          refine ⟨r2, l17, ks.map (moveC φ), ((0 : Int) :: fs) ++ [far], rfl, Pm17.c, by rw [List.length_map]; omega, fun c hc => (cin3 c hc).1, h17, by rw [List.length_append, List.length_cons]; simp; omega, fun H18 t18 b18 near e18 h18 hb18 nf18 g1 g2 hD18 => ?_⟩
          have Pk18 := Pk17.ex e18
          have Pm18 := Pm17.ex e18
          have hD18' := hD17.ex e18
          have nab : na ≠ b15 := fun z => by rw [← z, Pk14.n.1] at hb15; cases hb15
          have nmb : m2 ≠ b18 := fun z => by rw [← z, Pm17.n.1] at hb18; cases hb18
          have ndk : (ks.map kC).Nodup := by
            obtain ⟨_, _, _, q⟩ := Pk18.c
            exact q
          have ndm : ((ks.map (moveC φ)).map kC).Nodup := by
            obtain ⟨_, _, _, q⟩ := Pm18.c
            exact q
          have ibad : ∀ c ∈ ks ++ [badC far], CellIn c := fun c hc => by
            rcases List.mem_append.mp hc with w | w
            · exact Pk18.ci c w
            · rw [List.mem_singleton.mp w]; exact bad_in f1 f2
          have ibad2 : ∀ c ∈ ks.map (moveC φ) ++ [badC near], CellIn c := fun c hc => by
            rcases List.mem_append.mp hc with w | w
            · exact Pm18.ci c w
            · rw [List.mem_singleton.mp w]; exact bad_in g1 g2
          repeat walk_at "st"
          refine ⟨na, b15, tu, ms, ks ++ [badC far], rfl, Pk18.n, Pk18.ni, Pk18.nl, hD18', ibad, by rw [List.length_append]; simp; omega, nab, fun H19 pd nd' cd e19 hAd hnd hcd => ?_⟩
          repeat walk_at "st"
          refine ⟨m2, b18, tu, moveN φ ms, ks.map (moveC φ) ++ [badC near], rfl, (Pm18.ex e19).n, Pm18.ni, Pm18.nl, hD18.ex e19, ibad2, by rw [List.length_append, List.length_map]; simp; omega, nmb, fun H20 pw nw cw e20 hAw hnw hcw => ?_⟩
          have hAd20 := hAd.ex e20
          have e1420 := e1417.trans (e18.trans (e19.trans e20))
          have hAo20 := hAo.ex e1420
          have hAg20 := hAg.ex (e14.trans e1420)
          have ig : ∀ c ∈ cg, CellIn c := fun c h => Pk18.ci c ((hcg c).mp h)
          have io : ∀ c ∈ co, CellIn c := fun c h => Pm18.ci c ((hco c).mp h)
          have id' : ∀ c ∈ cd, CellIn c := fun c h => ibad c ((hcd c).mp h)
          have iw : ∀ c ∈ cw, CellIn c := fun c h => ibad2 c ((hcw c).mp h)
          have Lg := lost_none Pk14 Ak hAg hng hcg
          have Lo := lost_none Pm14 Am hAo hno hco
          have Ld : ∀ met, Good nd' cd met → ∃ z, lostL cd met = far :: z := by
            obtain ⟨_, _, _, _, _, A⟩ := hAd
            exact far_lost A.co ndk hnd hcd Ak D.nin2 cin2 nf15
          have Lw' : ∀ met, Good nw cw met → ∃ z, lostL cw met = near :: z := by
            obtain ⟨_, _, _, _, _, A⟩ := hAw
            exact far_lost A.co ndm hnw hcw Am nin3 cin3 nf18
          repeat walk_at "st"
          intro l21 H21 hl21 e21 h21
          repeat walk_at "st"
          intro t22 H22 ht22 e22 h22
          repeat walk_at "st"
          intro l23 H23 hl23 e23 h23
          repeat walk_at "st"
          intro t24 H24 ht24 e24 h24
          repeat walk_at "st"
          intro q25 H25 hq25 e25 h25
          repeat walk_at "st"
          intro l26 H26 hl26 e26 h26
          repeat walk_at "st"
          intro t27 H27 ht27 e27 h27
          repeat walk_at "st"
          intro l28 H28 hl28 e28 h28
          repeat walk_at "st"
          intro t29 H29 ht29 e29 h29
          repeat walk_at "st"
          intro q30 H30 hq30 e30 h30
          repeat walk_at "st"
          have e2530 := e26.trans (e27.trans (e28.trans (e29.trans e30)))
          refine k_cat (e2530.get h25) h30 (by rw [sizeLine_eq]; simp) fun q31 H31 hq31 e31 h31 => ?_
          repeat walk_at "st"
          intro l32 H32 hl32 e32 h32
          repeat walk_at "st"
          intro t33 H33 ht33 e33 h33
          have h31' := e33.get (e32.get h31)
          repeat walk_at "st"
          intro H34 b34 h34
          have e2030 := e21.trans (e22.trans (e23.trans (e24.trans (e25.trans e2530))))
          have e3033 := e31.trans (e32.trans e33)
          have e2033 := e2030.trans e3033
          have off : ∀ {x : Addr} {o : HO}, H30 x = some o → x ≠ q31 := fun {x o} h => ne_of_none h hq31
          have e2130 := e22.trans (e23.trans (e24.trans (e25.trans e2530)))
          have e2330 := e24.trans (e25.trans e2530)
          have e2630 := e27.trans (e28.trans (e29.trans e30))
          have e2830 := e29.trans e30
          have A1 : Ask K q31 H33 (.ref t22) := ⟨t22, pd, po, l21, _, _, _, _, far, [], rfl, (e23.trans (e2330.trans e3033)).get h22, hAd20.ex e2033, hAo20.ex e2033, id', io, off (e2130.get h21), (e2130.trans e3033).get h21, .inl Ld⟩
          have A2 : Ask K q31 H33 (.ref t24) := ⟨t24, po, pd, l23, _, _, _, _, far, [], rfl, (e25.trans (e2530.trans e3033)).get h24, hAo20.ex e2033, hAd20.ex e2033, io, id', off (e2330.get h23), (e2330.trans e3033).get h23, .inr ⟨Lo, Ld⟩⟩
          have A3 : Ask K q31 H33 (.ref t27) := ⟨t27, pd, pw, l26, _, _, _, _, far, [], rfl, (e28.trans (e2830.trans e3033)).get h27, hAd20.ex e2033, hAw.ex e2033, id', iw, off (e2630.get h26), (e2630.trans e3033).get h26, .inl Ld⟩
          have A4 : Ask K q31 H33 (.ref t29) := ⟨t29, pw, pd, l28, _, _, _, _, near, [], rfl, (e30.trans e3033).get h29, hAw.ex e2033, hAd20.ex e2033, iw, id', off (e2830.get h28), (e2830.trans e3033).get h28, .inl Lw'⟩
          have A5 : Ask K q31 H33 (.ref t33) := ⟨t33, pg, pw, l32, _, _, _, _, near, [], rfl, h33, hAg20.ex e2033, hAw.ex e2033, ig, iw, (fun z => by rw [z, h31] at hl32; cases hl32), e33.get h32, .inr ⟨Lg, Lw'⟩⟩
          have A33 : ∀ v ∈ [V.ref t22, V.ref t24] ++ [V.ref t27, V.ref t29] ++ [V.ref t33], Ask K q31 H34 v := fun v hv => by
            refine Ask.exB h31' b34 ?_
            simp only [List.cons_append, List.nil_append, List.mem_cons, List.not_mem_nil, or_false] at hv
            rcases hv with rfl | rfl | rfl | rfl | rfl
            · exact A1
            · exact A2
            · exact A3
            · exact A4
            · exact A5
          have e3034 : Ex H30 H34 := ExB.old e3033 hq31 b34
          have e2034 := e2030.trans e3034
          have Pk34 := Pk18.ex (e19.trans (e20.trans e2034))
          have Pm34 := Pm18.ex (e19.trans (e20.trans e2034))
          have hC34 := hC12.ex (e1214.trans (e1420.trans e2034))
          repeat walk_at "st"
          refine ⟨na, ca, ms, xs, rfl, Pk34.n, by omega, hC34, by omega, D.ne, fun H35 lo met cl e35 hlo hlo2 clo hcl good => ?_⟩
          have hq35 := e35.get h34
          have A35 : ∀ v ∈ [V.ref t22, V.ref t24] ++ [V.ref t27, V.ref t29] ++ [V.ref t33], Ask K q31 H35 v := fun v hv => (A33 v hv).ex e35
          obtain ⟨q0, hq0, q0l⟩ : ∃ q0, q0 = [V.ref t22, V.ref t24] ++ [V.ref t27, V.ref t29] ++ [V.ref t33] ∧ q0.length < sizeLine := ⟨_, rfl, by rw [sizeLine_eq]; simp⟩
          rw [← hq0] at hq35 A35
          have e2035 := e2034.trans e35
          have nlq : lo ≠ q31 := fun z => by rw [z, h34] at hlo; cases hlo
          repeat walk_at "st"
          by_cases hz : (((lostL cl met).map V.int).length : Int) > 0
          case' pos =>
            refine k_iteT hz ?_
            repeat walk_at "st"
            refine ⟨na, ca, tu, ms, xs, rfl, (Pk34.ex e35).n, D.nin, by omega, hC34.ex e35, D.cin, by omega, D.ne, fun H36 p36 n36 c36 e36 hA36 hn36 hc36 => ?_⟩
            have hlo36 := e36.get hlo2
            have hq36 := e36.get hq35
            repeat walk_at "st"
            intro t37 H37 ht37 e37 h37
            have hq37 := e37.get hq36
            repeat walk_at "st"
            intro H38 b38 h38
            obtain ⟨x, zs, exz⟩ : ∃ x zs, lostL cl met = x :: zs := by
              rw [List.length_map] at hz
              cases hh : lostL cl met with
              | nil => rw [hh] at hz; exact absurd hz (by decide)
              | cons x zs => exact ⟨x, zs, rfl⟩
            rw [exz] at hlo2
            have A6 : Ask K q31 H37 (.ref t37) := ⟨t37, p36, pw, lo, _, _, _, _, x, zs, rfl, h37, hA36.ex e37, hAw.ex (e2035.trans (e36.trans e37)), (fun c h => D.cin c ((hc36 c).mp h)), iw, nlq, (e36.trans e37).get hlo2, .inl (by
              obtain ⟨_, _, _, _, _, A⟩ := hA36
              exact lost_drawn A.co clo nd hn36 hc36 hcl good exz)⟩
            obtain ⟨Hz, hHz⟩ : ∃ Hz, Hz = H38 := ⟨_, rfl⟩
            obtain ⟨qs, hqs⟩ : ∃ qs, qs = q0 ++ [V.ref t37] := ⟨_, rfl⟩
            rw [← hHz] at b38 h38 ⊢
            rw [← hqs] at h38
            have hqz : Hz q31 = some (.lst qs) := h38
            have Az : ∀ v ∈ qs, Ask K q31 Hz v := fun v hv => by
              rw [hqs] at hv
              refine Ask.exB hq37 b38 ?_
              rcases List.mem_append.mp hv with w | w
              · exact (A35 v w).ex (e36.trans e37)
              · rw [List.mem_singleton.mp w]; exact A6
            have ez : Ex H30 Hz := ExB.old (e3034.trans (e35.trans (e36.trans e37))) hq31 b38
          case' neg =>
            refine k_iteF hz ?_
            repeat walk_at "st"
            obtain ⟨Hz, hHz⟩ : ∃ Hz, Hz = H35 := ⟨_, rfl⟩
            obtain ⟨qs, hqs⟩ : ∃ qs, qs = q0 := ⟨_, rfl⟩
            rw [← hHz]
            have hqz : Hz q31 = some (.lst qs) := by rw [hHz, hqs]; exact hq35
            have Az : ∀ v ∈ qs, Ask K q31 Hz v := by rw [hHz, hqs]; exact A35
            have ez : Ex H30 Hz := by rw [hHz]; exact e3034.trans e35
          all_goals
            clear A33 A35
            repeat walk_at "st"
            refine for_it (walk_list (xs := qs)) (fun i σ' H' => ∃ v27 v28 v29, σ' = [some (.ref a), some (.ref p), some (.ref na), some (.ref ca), some (.ref la), some (.bl tu), some (.ref q4), v7, some (.ref kd), some (.ref fl2), some (.ref td), v11, some (.ref m2), some (.ref r2), v14, v15, v16, some (.ref pg), some (.ref po), some (.int far), some (.ref b15), some (.int near), some (.ref b18), some (.ref pd), some (.ref pw), some (.ref q31), some (.ref lo), v27, v28, v29] ∧ Ex Hz H') ⟨none, none, none, rfl, Ex.refl _⟩ (fun i σ' H' _ ⟨_, _, _, _, e⟩ => .inl (.inl (e.get hqz))) (fun i x σ' Hx H39 hi ⟨v27, v28, v29, es, e39⟩ y => ?_) (fun σ' H39 ⟨v27, v28, v29, es, e39⟩ => ?_)
            · subst es
              obtain ⟨rfl, y⟩ := y
              obtain ⟨t, p', h', l', ns', ms', cs', ds', x', zs', rfl, ht, hA, hB, i1, i2, _, hl, o⟩ := (Az x (List.mem_of_getElem? y)).ex e39
              repeat walk_at "st"
              refine ⟨p', h', l', ns', ms', cs', ds', x', zs', rfl, hA, hB, i1, i2, hl, o, fun H40 e40 => ?_⟩
              repeat walk_at "st"
              exact ⟨_, _, _, rfl, e39.trans e40⟩
            · subst es
              have eE := e2030.trans (ez.trans e39)
              have PkE := Pk18.ex (e19.trans (e20.trans eE))
              have PmE := Pm18.ex (e19.trans (e20.trans eE))
              repeat walk_at "st"
              refine ⟨na, kd, m2, r2, !tu, ms, moveN φ ms, ks, ks.map (moveC φ), rfl, PkE, PmE, nam, Ak, Am, fun H40 e40 => ?_⟩
              repeat walk_at "st"
              exact k _
end


end Lw
end

section
open PySem PySem.Spec PyProof.Rows L2 L3 PySem.W
namespace Lw
theorem tx_of {w : World} {K : PySem.W.Frag} {mg : Str → Option Value} {h : Heap} (hK : K.In h) (G : h.Ns mainGlobals mg) (c : SaysS fa fn fs exS K) : Tx w K mg :=
  ⟨h, hK, G, ⟨congrArg (fun z : He.AlD => ((z, []) : He.AlT)) c.d, (He.ba c.more).1, (fun p hp => nomatch hp), (fun p hp => nomatch hp), (fun p hp => nomatch hp)⟩⟩
theorem ty_of {P : Program} {w : World} {K : PySem.W.Frag} {mg : Str → Option Value} {h : Heap} (hF : P.main.file = progF) (hT : (P.main.scope.names.lookup ("super" : Str)).isSome = false) (hK : K.In h) (G : h.Ns mainGlobals mg) (gs : mg "super" = none) (c : SaysS fa fn fs exS K) : Ty P w K mg := by
  have T : Tx w K mg := tx_of hK G c
  have m := c.more
  obtain ⟨_, m1⟩ := He.ba m
  obtain ⟨b1, m2⟩ := He.ba m1
  obtain ⟨b2, m3⟩ := He.ba m2
  obtain ⟨b3, m4⟩ := He.ba m3
  obtain ⟨b4, m5⟩ := He.ba m4
  obtain ⟨b4', m5'⟩ := He.ba m5
  obtain ⟨_, b5⟩ := He.ba m5'
  have b4c := b4
  unfold tyB at b4c
  obtain ⟨c1, n1⟩ := He.ba b4c
  obtain ⟨c2, n2⟩ := He.ba n1
  obtain ⟨c3, c4⟩ := He.ba n2
  refine ⟨T, ?_, ?_, ?_, ?_, ?_, b5, ?_, ?_⟩
  · rw [← hF] at b1
    exact supB_ok (x := "Lost") T.m_Lost gs hT b1 (c.at_ 0) (fun env => ⟨_, rfl⟩)
  · rw [← hF] at b2
    exact supNB_ok (x := "NoName") T.m_NoName gs hT b2 (c.at_ 1) (fun env => ⟨_, rfl⟩)
  · unfold PySem.W.kitOne
    rw [if_pos (by simp)]
  · exact ⟨of_decide_eq_true c1, of_decide_eq_true c2, of_decide_eq_true c3, of_decide_eq_true c4⟩
  · unfold sizB at b3
    obtain ⟨s1, r1⟩ := He.ba b3
    obtain ⟨s2, r2⟩ := He.ba r1
    obtain ⟨s3, r3⟩ := He.ba r2
    obtain ⟨s4, r4⟩ := He.ba r3
    obtain ⟨s5, s6⟩ := He.ba r4
    have hrec : ∃ rest, PySem.W.recIn K (sizP K) "property" = some (.ref (sizG K) :: rest) := by
      unfold sizG
      split at s4
      · rename_i g rest q
        rw [q]
        exact ⟨rest, rfl⟩
      · cases s4
    obtain ⟨oc, od, osl, cl, dV, kV, doc, pm, an, cdv, ct, hlk, hcl⟩ := fnS_at (c.at_ 2)
    have e0 : cl = [] := List.map_eq_nil_iff.mp hcl
    subst e0
    have hlk2 : K.lookup (sizG K) = _ := hlk
    rw [hlk2] at s6
    dsimp only [PySem.W.fnX] at s6
    obtain ⟨k1, s7⟩ := He.ba s6
    obtain ⟨k2, k3⟩ := He.ba s7
    exact ⟨sizP K, sizG K, ⟨of_decide_eq_true s1, of_decide_eq_true s2, of_decide_eq_true s3, hrec⟩, _, ⟨oc, od, dV, kV, doc, pm, an, cdv, ct, osl, rfl, hlk2, k1, He.dflB_ok k2, He.kwdB_ok k3⟩, s5⟩
  · unfold PySem.W.kitOne
    rw [if_pos (by simp)]
  · unfold tyFB at b4'
    obtain ⟨f1, f2⟩ := He.ba b4'
    exact ⟨of_decide_eq_true f1, of_decide_eq_true c2, of_decide_eq_true c3, of_decide_eq_true f2⟩
theorem ex3_of {K : PySem.W.Frag} (c : SaysS fa fn fs exS K) : ExLF K := by
  have m := c.more
  obtain ⟨_, m1⟩ := He.ba m
  obtain ⟨b1, m2⟩ := He.ba m1
  obtain ⟨b2, m3⟩ := He.ba m2
  obtain ⟨b3, m4⟩ := He.ba m3
  obtain ⟨b4, m5⟩ := He.ba m4
  obtain ⟨b4', m5'⟩ := He.ba m5
  obtain ⟨b5, _⟩ := He.ba m5'
  exact ex3B_ok b5


end Lw
end

open PySem PySem.W PySem.Calls PyProof.Rows
theorem PySem.Challenge.cw_heapshares_k08_written_alike_up_to_addre_holds : PySem.Challenge.rw_heapshares_k08_written_alike_up_to_addre.Holds := by
  w_on; o_law
  refine HandSHeadRun.head_any (r := Lw.R) (q := view Lw.R.prog [63]) (H := Lw.hkS) (ob := Lw.ob) (M := 6000) (loose := Lw.loose) (d := HandSHeadRun.topDef Lw.R.prog 63) (kwd := []) Lw.ob_eq
    (by kernel_rfl) (fun s => by kernel_rfl) Lw.run (by kernel_rfl) (by kernel_rfl) (by kernel_rfl) (by rfl) (by first | assumption | decide +kernel) (by decide +kernel) ⟨rfl, rfl, rfl, rfl, rfl, by decide +kernel⟩ ?hw ?hc
  case hw => w_witness2
  case hc =>
    refine L2.walk_ofE (l := PySem.Challenge.rw_heapshares_k08_written_alike_up_to_addre) (n := 63) (k := 11) (x := "script") (CX := L2.CX0) rfl (by decide) (by kernel_rfl) ⟨rfl, by decide, by decide⟩ ?F (fun _ _ _ _ z => z)
    intro w mg fa h Y G hmg0
    obtain ⟨K, KX, c⟩ := Y
    have T := Lw.tx_of (w := w) KX G c
    have Ty := Lw.ty_of (P := (PySem.Challenge.rw_heapshares_k08_written_alike_up_to_addre).prog) (w := w) (by kernel_rfl) (by kernel_rfl) KX G T.f_super c
    have Z := Lw.ex3_of c
    have hmg : mg ("law" : PySem.Str) = some (.ref fa) := by
      have e : (HandSHeadRun.topDef Lw.R.prog 63).name = ("law" : PySem.Str) := by kernel_rfl
      rw [← e]
      exact hmg0
    have ef : fa = He.ga K "law" := by
      have := hmg.symm.trans T.m_law
      cases this
      rfl
    obtain ⟨fd, F⟩ := T.D_law
    have F2 := F
    rw [show He.fAd K ("law", none) = He.ga K "law" from rfl, ← ef] at F2
    have b := L2.FunD.bindsA (ps := ["script"]) F2 fun _ _ _ _ _ _ us hl => match us, hl with | [_], _ => rfl
    exact ⟨K, fd, Lw.spLaw K, KX, fun s v => b s [v] rfl, fun H a ns hl _ hS => ⟨a, ns, rfl, hS, fun _ => rfl⟩, fun base _ _ => Lw.c_law Ty Z F2⟩

