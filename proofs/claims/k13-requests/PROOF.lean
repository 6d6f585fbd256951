import PyProof.Rows.All
import Wide.All
import OpenK.AllK
import Wide.FinOn
import PyProof.EqAt
import PyProof.EqKinds
import PyProof.TupleCall
import HandS.ForMost
import HandS.ForExc
import HandS.Conv
import HandS.TupMul
import HandS.TupAny
import HandS.Style
import HandS.Steps
import HandS.Deep
import HandS.IsInst
import HandS.Flow
import HandS.Defaults
import HandS.HeadHook1
import HandS.HeadHook2
import HandS.HeadEnd
import HandS.Head0
import HandS.Head1
import HandS.Head2
import KE.KStateDown
import PySem.Challenge.RW_ringbound_k13_requests_on_a_plain_table
set_option Elab.async false
set_option linter.all false
set_option maxRecDepth 100000
set_option maxHeartbeats 4000000
/-! Rb: rules joined by cases, names for readings, the tactic rows of the walks. -/
namespace Rb
open PySem PySem.Spec PyProof.Rows L2
/-! ### names of readings -/
def rAddI : R2 := rI0 fun i j => .int (i + j)
def rSubI : R2 := rI0 fun i j => .int (i - j)
def rMulI : R2 := rI CMul fun i j => .int (i * j)
def rDivI : R2 := rI CDiv fun i j => .int (i / j)
def rModI : R2 := rI (fun _ j => 0 < j) fun i j => .int (i % j)
def rPowI : R2 := rI CPow fun i j => .int (i ^ j.toNat)
def rNegI : V → Hp → VK → Prop := rU fun i => .int (-i)
def rLtI : R2 := rI0 fun i j => .bl (decide (i < j))
def rLeI : R2 := rI0 fun i j => .bl (decide (i ≤ j))
def rGtI : R2 := rI0 fun i j => .bl (decide (j < i))
def rGeI : R2 := rI0 fun i j => .bl (decide (j ≤ i))
def rAddA (K : PySem.W.Frag) : R2 := fun x y H Q => rAddI x y H Q ∨ rCat x y H Q ∨ rCatA K x y H Q
def rMulA (K : PySem.W.Frag) : R2 := fun x y H Q => rMulI x y H Q ∨ rRep x y H Q ∨ rRepT K x y H Q
def rSlX (K : PySem.W.Frag) : V → Option Int → Option Int → Hp → VK → Prop := fun x lo hi H Q => rSlL K x lo hi H Q ∨ rSlA K x lo hi H Q
def rInA (K : PySem.W.Frag) : R2 := fun x y H Q => rIn K false x y H Q ∨ rInD K x y H Q
def rNiA (K : PySem.W.Frag) : R2 := fun x y H Q => rIn K true x y H Q ∨ rNotInD K x y H Q
def rLenA (K : PySem.W.Frag) : List V → Hp → VK → Prop := fun xs H Q => ∃ x n, xs = [x] ∧ LenV K x H n ∧ Q (.int n) H
def rAbsI : List V → Hp → VK → Prop := fun xs H Q => ∃ i, xs = [.int i] ∧ Q (.int (if i < 0 then -i else i)) H
def rIntC : List V → Hp → VK → Prop := fun xs H Q => (∃ i, xs = [.int i] ∧ Q (.int i) H) ∨ ∃ k, xs = [.bl k] ∧ Q (.int (if k then 1 else 0)) H
def rMin2 : List V → Hp → VK → Prop := fun xs H Q => ∃ i j, xs = [.int i, .int j] ∧ Q (.int (if j < i then j else i)) H
def rMax2 : List V → Hp → VK → Prop := fun xs H Q => ∃ i j, xs = [.int i, .int j] ∧ Q (.int (if j > i then j else i)) H
def rListC (K : PySem.W.Frag) : List V → Hp → VK → Prop := fun xs H Q => ∃ p ys, xs = [.ref p] ∧ (SqL K H p ys ∨ SqT K H p ys) ∧ ∀ l, H l = none → Q (.ref l) (upd H l (.lst ys))
def rTupC (K : PySem.W.Frag) : List V → Hp → VK → Prop := fun xs H Q => ∃ p ys, xs = [.ref p] ∧ ((SqL K H p ys ∧ ∀ l, H l = none → Q (.ref l) (upd H l (.tup ys))) ∨ (SqT K H p ys ∧ Q (.ref p) H))
section
variable {X : Cx}
theorem op_addA : OpR X (binaryOp .Add) (rAddA X.K) := OpR.or op_add (OpR.or op_cat op_catA)
theorem op_mulA : OpR X (binaryOp .Mult) (rMulA X.K) := OpR.or op_mul (OpR.or op_rep op_repT)
theorem op_subN : OpR X (binaryOp .Sub) rSubI := op_sub
theorem op_divN : OpR X (binaryOp .FloorDiv) rDivI := op_fdiv
theorem op_modI : OpR X (binaryOp .Mod) rModI := op_mod
theorem op_powI : OpR X (binaryOp .Pow) rPowI := op_pow
theorem un_negI : UnR X (unaryOp .USub) rNegI := un_neg
theorem op_ltI : OpR X (compareOp .Lt) rLtI := op_lt
theorem op_leI : OpR X (compareOp .LtE) rLeI := op_le
theorem op_gtI : OpR X (compareOp .Gt) rGtI := op_gt
theorem op_geI : OpR X (compareOp .GtE) rGeI := op_ge
theorem sl_A : SlR X (rSlX X.K) := SlR.or sl_list sl_tupA
theorem op_inA (hu : X.A.units + 65 < cLine) : OpR X (compareOp .In) (rInA X.K) := OpR.or op_in_seq (op_inD hu)
theorem op_niA (hu : X.A.units + 65 < cLine) : OpR X (compareOp .NotIn) (rNiA X.K) := OpR.or op_notIn_seq (op_notInD hu)
theorem cr_len : CallR X (.builtin "len") (rLenA X.K) := call_len
theorem cr_abs : CallR X (.builtin "abs") rAbsI := call_abs
theorem cr_int : CallR X (.type "int") rIntC := call_int1
theorem cr_min2 (hc : X.calm = true) : CallR X (.builtin "min") rMin2 := call_min2 hc
theorem cr_max2 (hc : X.calm = true) : CallR X (.builtin "max") rMax2 := call_max2 hc
theorem cr_list : CallR X (.type "list") (rListC X.K) := call_list_of
theorem cr_tup : CallR X (.type "tuple") (rTupC X.K) := call_tuple_of
theorem cr_isi : CallR X (.builtin "isinstance") (rIsi X.K) := call_isi
theorem pt_tru {a : Expr} {ta : TE} (ha : PE X a ta) (he : ∀ whole, isTrue a X.env whole = (do let v ← whole; standAt a.pos; holding [v] (truthy v)) := by intro _; rfl) : PT X a (tTru X.K ta) := pt_truth ha he
theorem pe_gint {x : Str} {i : Int} {pos : Pos} (hg : Gl X x) (hm : ∃ t, X.mg x = some (.int i t)) (hd : (x == ("__debug__" : Str)) = false := by decide) : PE X (.Name x pos) (tC (.int i)) := by
  obtain ⟨t, e⟩ := hm
  exact pe_glob hg e ⟨t, rfl⟩ hd
/-! ### l[i] as a place of l[i] op= e -/
def rGetL (K : PySem.W.Frag) : V → V → Hp → VK → Prop := fun x y H Q => ∃ p xs i v, x = .ref p ∧ y = .int i ∧ SqL K H p xs ∧ 0 ≤ i ∧ xs[i.toNat]? = some v ∧ Q v H
theorem get_list : PGet X (rGetL X.K) := by
  intro pins s σ H o i ov iv Q I ro ri h
  obtain ⟨p, xs, k, v, rfl, rfl, hp, hk, hx, q⟩ := h
  cases ro
  obtain ⟨t, rfl⟩ := ri
  obtain ⟨its, r, pl, hz⟩ := I.list hp
  obtain ⟨w, ew, rw'⟩ := r.get hx
  have hlt : k.toNat < xs.length := (List.getElem?_eq_some_iff.mp hx).1
  have hn := line63
  have hl := r.length
  refine wpAny_getItem_list pl.isList hk (by omega) (by simpa using ew) ⟨v, H, I, rw', q⟩
end
/-! ### a word between a statement and the rest -/
def tCut (t u : TS) : TS := fun D σ H => ∃ Mid : L2.St → Hp → Prop, t { D with nx := Mid } σ H ∧ ∀ σ' H', Mid σ' H' → u D σ' H'
theorem pss_cut {X : Cx} {st : Stmt} {rest : List Stmt} {t u : TS} (h1 : PS X st t) (h2 : PSs X rest u) : PSs X (st :: rest) (tCut t u) := by
  refine ⟨fun pins s σ H D I h => ?_⟩
  obtain ⟨Mid, hm, hu⟩ := h
  refine wpAny_execs_cons (thn (h1.run pins s σ H { D with nx := Mid } I hm) fun f s1 q => ?_)
  cases f with
  | next =>
    obtain ⟨σ', H', I', q⟩ := q
    exact h2.run pins s1 σ' H' D I' (hu σ' H' q)
  | ret v => exact q
  | brk => exact q
  | cont => exact q
/-! ### a def of the text with its arguments -/
/-- a def keeps its promise at f, with its arguments' binding -/
def Okd (P : Program) (w : World) (K : PySem.W.Frag) (mg : Str → Option Value) (base : Heap) (k : Nat) (f : Addr) (ps : List Str) (sp : Sp) : Prop :=
  ∃ fd, FnOk P w K mg base (L2.CX P w) k f fd ps sp ∧ Binds K fd ps [] ∧ PySem.W.keepIn K (.ref f) = true ∧ ∃ oc od osl, K.lookup f = some ⟨oc, od, .func fd, osl⟩
theorem Okd.of {P : Program} {w : World} {K : PySem.W.Frag} {mg : Str → Option Value} {base : Heap} {x qual : Str} {st : Stmt} {f : Addr} {N ps : List Str} {k : Nat} {sp : Sp}
    (hF : ∃ fd, FunD K x qual (defArgs st) (defBody st) (defScope st) [] [] f fd) (S : FnScope N ps (defScope st)) (len : ∀ vs H Q E, sp vs H Q E → vs.length = ps.length)
    (hb : ∀ (kV doc pm : Value) (an : Option Addr) (cdv ct : Value) (us : List Value), us.length = ps.length → bindArgs (PySem.W.fnOf x qual (defArgs st) (defBody st) (defScope st) .none kV doc pm an cdv ct) ⟨us, []⟩ = pure (ps.zip us))
    {t : XK → TS} (hbody : ∀ (cdv : Value) (A : Around) (outer : List Env) (s : Shared) (H : Hp) (E : XK), Room k (A.deeper (envOfC qual (defScope st) s.heap.objs.size f cdv)) →
      PSs (cxOf (L2.CX P w) P w K mg base N qual (defScope st) f cdv A outer s H E) (defBody st) (t E))
    (pure_ : ∀ vs H Q E, sp vs H Q E → t E { nx := fun _ H' => Q .non H', rt := Q } (start N vs) H) : Okd P w K mg base (k + 1) f ps sp := by
  obtain ⟨fd, F⟩ := hF
  refine ⟨fd, F.ok S len fun cdv A outer s H vs Q E hr h => ⟨t E, hbody cdv A outer s H E hr, pure_ vs H Q E h⟩, F.bindsN hb, F.kp, ?_⟩
  obtain ⟨oc, od, dV, kV, doc, pm, an, cdv, ct, osl, rfl, lk, _, _, _⟩ := F.ex
  exact ⟨oc, od, osl, lk⟩
theorem Okd.fixD {P : Program} {w : World} {K : PySem.W.Frag} {mg : Str → Option Value} {base : Heap} {x qual : Str} {params : Arguments} {body : List Stmt} {scope : Scope} {f : Addr} {ps : List Str} {k : Nat} {sp : Sp} {fd : FuncData} {dvs : List V} {kws : List (Str × V)}
    (F : FunD K x qual params body scope dvs kws f fd) (h : Okd P w K mg base k f ps sp) : FnOk P w K mg base (L2.CX P w) k f fd ps sp := by
  obtain ⟨oc, od, dV, kV, doc, pm, an, cdv, ct, osl, rfl, lk, _, _, _⟩ := F.ex
  obtain ⟨fd', G, _, _, oc', od', osl', lk'⟩ := h
  rw [lk] at lk'
  injection lk' with z
  injection z with _ _ z _
  injection z with z
  rw [z]
  exact G
theorem Okd.mono {P : Program} {w : World} {K : PySem.W.Frag} {mg : Str → Option Value} {base : Heap} {j k : Nat} {f : Addr} {ps : List Str} {sp : Sp} (h : Okd P w K mg base j f ps sp) (hk : j ≤ k) : Okd P w K mg base k f ps sp := by
  obtain ⟨fd, F, b, kp, lk⟩ := h
  exact ⟨fd, F.mono hk, b, kp, lk⟩
/-! ### the law's call, where an exception may be in the air within -/
theorem walk_ofX {l : PySem.W.OpenLaw} {n k : Nat} {q : Program} {loose : List Str} {XP : (Str → Option Value) → Heap → Prop} {YP : World → Heap → Prop} {d : DefRec} {x : Str}
    (hn : l.most = some n) (hn2 : n ≤ sizeLine) (hdf : d.params.defaults = []) (hr : Room k callerA)
    (F : ∀ (w : World) (mg : Str → Option Value) (fa : Addr) (h : Heap), YP w h → h.Ns mainGlobals mg → mg d.name = some (.ref fa) →
      ∃ (K : PySem.W.Frag) (fd : FuncData) (sp : Sp), K.In h ∧ (∀ (s : Shared) (u : Value), BindsTo s fd ⟨[u], []⟩ [(x, u)]) ∧
        (∀ (H : Hp) (a : Addr) (ns : List Int), ns.length ≤ n → Only H → SqL K H a (ns.map V.int) → sp [.ref a] H (fun v _ => v = .bl true) fun _ _ _ => False) ∧
        ∀ base : Heap, K.In base → base.Ns mainGlobals mg → FnOk l.prog w K mg base (L2.CX l.prog w) k fa fd [x] sp) :
    PySem.W.WalkO q loose XP YP l.row.toRowW d [] (fun f vs => PySem.call f vs) := by
  refine Att.attach_call hn hdf fun w s₀ s₁ mg mb fa o pm cd doc a vs ns G Y ho hd hcd hmg hobj hints hlen hg => ?_
  obtain ⟨K, fd, sp, KX, hb, hsp, hF⟩ := F w mg fa _ Y G.T.g hmg
  exact law_call KX G.T.g G.T.b G.T.builtins G.T.nolimit hg hobj hints (Nat.le_trans hlen hn2) hr hF hb (fun H hO hS => hsp H a ns hlen hO hS) fun H e s' ⟨_, _, _, _, _, _, _, _, _, _, _, _, z⟩ => z
end Rb
/-! Rb: readings, one step at a time (i_*). -/
namespace Rb
open PySem PySem.Spec PyProof.Rows L2
variable {K : PySem.W.Frag} {σ : L2.St} {H H1 H2 : Hp} {D : Ends} {Q : VK} {QB : Bool → Hp → Prop} {QA : List V → Hp → Prop} {E : XK}
/-! ### statements -/
theorem i_seq {t u : TS} (h : t { D with nx := u D } σ H) : tSeq t u D σ H := h
theorem i_cut {t u : TS} (M : L2.St → Hp → Prop) (h : t { D with nx := M } σ H) (k : ∀ σ' H', M σ' H' → u D σ' H') : tCut t u D σ H := ⟨M, h, k⟩
theorem i_asg {te : TE} {g : TG} (h : te σ H fun x H1 => g x σ H1 D.nx) : tAsg te g D σ H := h
theorem i_gname {i : Nat} {v : V} {R : L2.St → Hp → Prop} (h : R (σ.set i (some v)) H) : gName i v σ H R := h
theorem i_gsub {to ti : TE} {t : TSet} {v : V} {R : L2.St → Hp → Prop} (h : to σ H fun o H1 => ti σ H1 fun i H2 => t o i v H2 fun H3 => R σ H3) : gSub to ti t v σ H R := h
theorem i_gtup {n : Nat} {t : TGs} {a : Addr} {xs : List V} {R : L2.St → Hp → Prop} (hq : SqT K H a xs) (hl : xs.length = n) (h : t xs σ H R) : gTup K n t (.ref a) σ H R := ⟨a, xs, rfl, hq, hl, h⟩
theorem i_gnil {R : L2.St → Hp → Prop} (h : R σ H) : gNil [] σ H R := ⟨rfl, h⟩
theorem i_gcons {t : TG} {u : TGs} {v : V} {r : List V} {R : L2.St → Hp → Prop} (h : t v σ H fun σ' H' => u r σ' H' R) : gCons t u (v :: r) σ H R := ⟨v, r, rfl, h⟩
theorem i_ret {te : TE} (h : te σ H D.rt) : tRet te D σ H := h
theorem i_retN (h : D.rt .non H) : tRetN D σ H := h
theorem i_next (h : D.nx σ H) : tNext D σ H := h
theorem i_cont (h : D.ct σ H) : tCont D σ H := h
theorem i_break (h : D.bk σ H) : tBreak D σ H := h
theorem i_drop {te : TE} (h : te σ H fun _ H1 => D.nx σ H1) : tDrop te D σ H := h
theorem i_ifS {c : TT} {t u : TS} (h : c σ H fun b H1 => if b = true then t D σ H1 else u D σ H1) : tIfS c t u D σ H := h
theorem i_setL {p : Addr} {xs : List V} {k : Int} {j : Nat} {v : V} {R : Hp → Prop} (hp : H p = some (.lst xs)) (hj : ixN xs.length k = some j) (h : R (upd H p (.lst (xs.set j v)))) : rSetL (.ref p) (.int k) v H R := ⟨p, xs, k, j, rfl, rfl, hp, hj, h⟩
theorem i_augS {to ti te : TE} {tget : V → V → Hp → VK → Prop} {tip : TIp} {tset : TSet} (h : to σ H fun o H1 => ti σ H1 fun i H2 => tget o i H2 fun x H3 => te σ H3 fun y H4 => tip x y H4 fun z H5 => tset o i z H5 fun H6 => D.nx σ H6) : tAugS to ti te tget tip tset D σ H := h
theorem i_getL {p : Addr} {xs : List V} {i : Int} {v : V} (hp : SqL K H p xs) (h0 : 0 ≤ i) (hv : xs[i.toNat]? = some v) (q : Q v H) : rGetL K (.ref p) (.int i) H Q := ⟨p, xs, i, v, rfl, rfl, hp, h0, hv, q⟩
theorem i_ipI {f : Int → Int → Int} {i j : Int} (q : Q (.int (f i j)) H) : ipI f (.int i) (.int j) H Q := ⟨i, j, rfl, rfl, q⟩
theorem i_aug {i : Nat} {te : TE} {ti : TIp} {x : V} (hx : σ[i]? = some (some x)) (h : te σ H fun y H1 => ti x y H1 fun z H2 => D.nx (σ.set i (some z)) H2) : tAug i te ti D σ H := ⟨x, hx, h⟩
theorem i_sfld {ta tv : TE} {f : Str} (h : tv σ H fun y H1 => ta σ H1 fun x H2 => ∃ a C dx fs, x = .ref a ∧ H2 a = some (.ins C dx fs) ∧ Cls K C ∧ NoAttr K C f ∧ fs.length < 1000 ∧ D.nx σ (upd H2 a (.ins C dx (putF f y fs)))) : sFld K ta tv f D σ H := h
theorem i_sfldIn {a C dx : Addr} {fs : List (Str × V)} {f : Str} {y : V} (h : H a = some (.ins C dx fs)) (c : Cls K C) (n : NoAttr K C f) (l : fs.length < 1000) (q : D.nx σ (upd H a (.ins C dx (putF f y fs)))) :
    ∃ a' C dx fs, V.ref a = .ref a' ∧ H a' = some (.ins C dx fs) ∧ Cls K C ∧ NoAttr K C f ∧ fs.length < 1000 ∧ D.nx σ (upd H a' (.ins C dx (putF f y fs))) := ⟨a, C, dx, fs, rfl, h, c, n, l, q⟩
/-! ### expressions -/
theorem i_var {i : Nat} {v : V} (h : σ[i]? = some (some v)) (q : Q v H) : tVar i σ H Q := ⟨v, h, q⟩
theorem i_c {v : V} (q : Q v H) : tC v σ H Q := q
theorem i_op {r : R2} {ta tb : TE} (h : ta σ H fun x H1 => tb σ H1 fun y H2 => r x y H2 Q) : tOp r ta tb σ H Q := h
theorem i_un {r : V → Hp → VK → Prop} {ta : TE} (h : ta σ H fun x H1 => r x H1 Q) : tUn r ta σ H Q := h
theorem i_neg {i : Int} (q : Q (.int (-i)) H) : rNegI (.int i) H Q := ⟨i, rfl, q⟩
theorem i_nil (q : QA [] H) : tNil σ H QA := q
theorem i_cons {ta : TE} {tr : TA} (h : ta σ H fun x H1 => tr σ H1 fun xs H2 => QA (x :: xs) H2) : tCons ta tr σ H QA := h
theorem i_tup {t : TA} (h : t σ H fun xs H1 => xs.length ≤ sizeLine ∧ ∀ p, H1 p = none → Q (.ref p) (upd H1 p (.tup xs))) : tTup t σ H Q := h
theorem i_lst {t : TA} (h : t σ H fun xs H1 => xs.length ≤ sizeLine ∧ ∀ p, H1 p = none → Q (.ref p) (upd H1 p (.lst xs))) : tLst t σ H Q := h
theorem i_cb {r : List V → Hp → VK → Prop} {t : TA} (h : t σ H fun vs H1 => r vs H1 Q) : tCB r t σ H Q := h
theorem i_bm {T : String} {r : V → List V → Hp → VK → Prop} {to : TE} {t : TA} (h : to σ H fun x H1 => tyV K T x H1 ∧ t σ H1 fun xs H2 => r x xs H2 Q) : tBM K T r to t σ H Q := h
theorem i_bm0 {T : String} {r : V → List V → Hp → VK → Prop} {to : TE} (h : to σ H fun x H1 => tyV K T x H1 ∧ r x [] H1 Q) : tBM0 K T r to σ H Q := h
theorem i_fld {ta : TE} {f : Str} (h : ta σ H fun x H1 => ∃ a C dx fs v, x = .ref a ∧ H1 a = some (.ins C dx fs) ∧ Cls K C ∧ NoAttr K C f ∧ fs.lookup f = some v ∧ Q v H1) : tFld K ta f σ H Q := h
theorem i_fldIn {a C dx : Addr} {fs : List (Str × V)} {f : Str} {v : V} (h : H a = some (.ins C dx fs)) (c : Cls K C) (n : NoAttr K C f) (l : fs.lookup f = some v) (q : Q v H) :
    ∃ a' C dx fs v, V.ref a = .ref a' ∧ H a' = some (.ins C dx fs) ∧ Cls K C ∧ NoAttr K C f ∧ fs.lookup f = some v ∧ Q v H := ⟨a, C, dx, fs, v, rfl, h, c, n, l, q⟩
theorem i_sl {r : V → Option Int → Option Int → Hp → VK → Prop} {te : TE} {tl th : TO} (h : te σ H fun x H1 => tl σ H1 fun l H2 => th σ H2 fun u H3 => r x l u H3 Q) : tSl r te tl th σ H Q := h
theorem i_nopart {R : Option Int → Hp → Prop} (q : R none H) : tNoPart σ H R := q
theorem i_part {t : TE} {R : Option Int → Hp → Prop} (h : t σ H fun x H1 => ∃ i, x = .int i ∧ R (some i) H1) : tPart t σ H R := h
theorem i_partIn {i : Int} {R : Int → Prop} (q : R i) : ∃ j, V.int i = .int j ∧ R j := ⟨i, rfl, q⟩
theorem i_chain {r r' : R2} {ta tb tc : TE} (h : ta σ H fun x H1 => tb σ H1 fun y H2 => r x y H2 fun z H3 => ∃ k, z = .bl k ∧ (if k = true then tc σ H3 fun w' H4 => r' y w' H4 Q else Q (.bl false) H3)) : tChain r r' ta tb tc σ H Q := h
theorem i_andV {ta tb : TE} (h : ta σ H fun x H1 => ∃ c, x = .bl c ∧ if c = true then tb σ H1 Q else Q (.bl false) H1) : tAndV ta tb σ H Q := h
theorem i_orV {ta tb : TE} (h : ta σ H fun x H1 => ∃ c, x = .bl c ∧ if c = true then Q (.bl true) H1 else tb σ H1 Q) : tOrV ta tb σ H Q := h
theorem i_notV {ta : TE} (h : ta σ H fun x H1 => ∃ c, x = .bl c ∧ Q (.bl (!c)) H1) : tNotV ta σ H Q := h
theorem i_test {t : TE} (h : t σ H fun x H' => ∃ k, x = .bl k ∧ QB k H') : tTest t σ H QB := h
theorem i_B {t : TE} (h : t σ H fun x H' => ∃ k, x = .bl k ∧ QB k H') : tB t σ H QB := h
theorem i_tru {ta : TE} (h : ta σ H fun x H' => ∃ k, TruV K x H' k ∧ QB k H') : tTru K ta σ H QB := h
theorem i_truB {b : Bool} {R : Bool → Prop} (q : R b) : ∃ k, TruV K (.bl b) H k ∧ R k := ⟨b, rfl, q⟩
theorem i_truL {a : Addr} {xs : List V} {R : Bool → Prop} (h : SqL K H a xs) (q : R (!xs.isEmpty)) : ∃ k, TruV K (.ref a) H k ∧ R k := ⟨_, .inl ⟨xs, h, rfl⟩, q⟩
theorem i_truD {a : Addr} {kvs : List (Key × V)} {R : Bool → Prop} (h : H a = some (.dK kvs)) (q : R (!kvs.isEmpty)) : ∃ k, TruV K (.ref a) H k ∧ R k := ⟨_, .inr (.inr ⟨kvs, h, rfl⟩), q⟩
theorem i_bl {b : Bool} {R : Bool → Hp → Prop} (q : R b H) : ∃ k, V.bl b = .bl k ∧ R k H := ⟨b, rfl, q⟩
theorem i_blC {b : Bool} {R : Bool → Prop} (q : R b) : ∃ k, V.bl b = .bl k ∧ R k := ⟨b, rfl, q⟩
theorem i_not {t : TT} (h : t σ H fun c H1 => QB (!c) H1) : tNot t σ H QB := h
theorem i_and {t u : TT} (h : t σ H fun c H1 => if c = true then u σ H1 QB else QB false H1) : tAnd t u σ H QB := h
theorem i_or {t u : TT} (h : t σ H fun c H1 => if c = true then QB true H1 else u σ H1 QB) : tOr t u σ H QB := h
theorem i_if {t : TT} {ta tb : TE} (h : t σ H fun c H1 => if c = true then ta σ H1 Q else tb σ H1 Q) : tIf t ta tb σ H Q := h
theorem i_call {sp : Sp} {E' : XK} {t : TA} (h : t σ H fun vs H1 => sp (vs ++ []) H1 Q E') : tCall sp [] E' t σ H Q := h
theorem i_meth {C : Addr} {m : Str} {sp : Sp} {E' : XK} {ta : TE} {t : TA} (h : ta σ H fun x H1 => ∃ a dx fs, x = .ref a ∧ H1 a = some (.ins C dx fs) ∧ fs.lookup m = none ∧ t σ H1 fun vs H2 => sp (x :: (vs ++ [])) H2 Q E') : tMeth C m sp [] E' ta t σ H Q := h
theorem i_methIn {C a dx : Addr} {fs : List (Str × V)} {m : Str} {R : Prop} (h : H a = some (.ins C dx fs)) (l : fs.lookup m = none) (q : R) : ∃ a' dx fs, V.ref a = .ref a' ∧ H a' = some (.ins C dx fs) ∧ fs.lookup m = none ∧ R := ⟨a, dx, fs, rfl, h, l, q⟩
theorem i_make {C : Addr} {sp : Sp} {E' : XK} {t : TA} (h : t σ H fun vs H1 => ∀ x dx, H1 x = none → H1 dx = none → dx ≠ x → sp (.ref x :: (vs ++ [])) (upd (upd H1 dx (.own x)) x (.ins C dx [])) (fun v H2 => v = .non ∧ Q (.ref x) H2) E') : tMake C sp [] E' t σ H Q := h
theorem i_dnew (h : ∀ p, H p = none → Q (.ref p) (upd H p (.dK []))) : tDNewK σ H Q := h
theorem i_dget2 {td ty tx : TE} (h : td σ H fun x H1 => ∃ a, x = .ref a ∧ IsD H1 a ∧ ty σ H1 fun y H2 => tx σ H2 fun z H3 => ∃ o, DGet H3 a y o ∧ Q (o.getD z) H3) : tDGet2 td ty tx σ H Q := h
theorem i_din {td ty : TE} (h : ty σ H fun y H1 => td σ H1 fun x H2 => ∃ a o, x = .ref a ∧ DGet H2 a y o ∧ Q (.bl o.isSome) H2) : tDIn ty td σ H Q := h
theorem i_dput {td ty tv : TE} (h : tv σ H fun v H1 => td σ H1 fun x H2 => ty σ H2 fun y H3 => ∃ a H4, x = .ref a ∧ DPut H3 a y v H4 ∧ D.nx σ H4) : sDPut td ty tv D σ H := h
/-! ### operations on values -/
theorem i_addI {i j : Int} (q : Q (.int (i + j)) H) : rAddA K (.int i) (.int j) H Q := .inl ⟨i, j, rfl, rfl, q⟩
theorem i_addL {a b : Addr} {xs ys : List V} (ha : H a = some (.lst xs)) (hb : H b = some (.lst ys)) (hl : xs.length + ys.length ≤ sizeLine) (q : ∀ p, H p = none → Q (.ref p) (upd H p (.lst (xs ++ ys)))) : rAddA K (.ref a) (.ref b) H Q :=
  .inr (.inl ⟨a, b, xs, ys, rfl, rfl, ha, hb, hl, q⟩)
theorem i_addT {a b : Addr} {xs ys : List V} (ha : SqT K H a xs) (hb : SqT K H b ys) (hl : xs.length + ys.length ≤ sizeLine) (q1 : xs = [] → Q (.ref b) H) (q2 : xs ≠ [] → ys = [] → Q (.ref a) H)
    (q : xs ≠ [] → ys ≠ [] → ∀ p, H p = none → Q (.ref p) (upd H p (.tup (xs ++ ys)))) : rAddA K (.ref a) (.ref b) H Q := .inr (.inr ⟨a, b, xs, ys, rfl, rfl, ha, hb, hl, q1, q2, q⟩)
theorem i_addI2 {i j : Int} (q : Q (.int (i + j)) H) : rAdd (.int i) (.int j) H Q := ⟨i, j, rfl, rfl, q⟩
theorem i_subI {i j : Int} (q : Q (.int (i - j)) H) : rSubI (.int i) (.int j) H Q := ⟨i, j, rfl, rfl, q⟩
theorem i_mulI {i j : Int} (c : CMul i j) (q : Q (.int (i * j)) H) : rMulA K (.int i) (.int j) H Q := .inl ⟨i, j, rfl, rfl, c, q⟩
theorem i_repL {a : Addr} {k : Int} {xs : List V} (h : H a = some (.lst xs)) (h1 : -(2 ^ 63) ≤ k) (h2 : k < 2 ^ 63) (hz : xs.length * k.toNat ≤ sizeLine) (q : ∀ p, H p = none → Q (.ref p) (upd H p (.lst (List.replicate k.toNat xs).flatten))) :
    rMulA K (.ref a) (.int k) H Q := .inr (.inl ⟨a, k, xs, rfl, rfl, h, h1, h2, hz, q⟩)
theorem i_repT {a : Addr} {k : Int} {xs : List V} (h : SqT K H a xs) (hn : xs ≠ []) (h1 : 2 ≤ k) (h2 : k ≤ 1000) (hz : xs.length ≤ 1000) (q : ∀ p, H p = none → Q (.ref p) (upd H p (.tup (List.replicate k.toNat xs).flatten))) :
    rMulA K (.ref a) (.int k) H Q := .inr (.inr ⟨a, k, xs, rfl, rfl, h, hn, h1, h2, hz, q⟩)
theorem i_divI {i j : Int} (c : CDiv i j) (q : Q (.int (i / j)) H) : rDivI (.int i) (.int j) H Q := ⟨i, j, rfl, rfl, c, q⟩
theorem i_modI {i j : Int} (c : 0 < j) (q : Q (.int (i % j)) H) : rModI (.int i) (.int j) H Q := ⟨i, j, rfl, rfl, c, q⟩
theorem i_powI {i j : Int} (c : CPow i j) (q : Q (.int (i ^ j.toNat)) H) : rPowI (.int i) (.int j) H Q := ⟨i, j, rfl, rfl, c, q⟩
theorem i_ltI {i j : Int} (q : Q (.bl (decide (i < j))) H) : rLtI (.int i) (.int j) H Q := ⟨i, j, rfl, rfl, q⟩
theorem i_leI {i j : Int} (q : Q (.bl (decide (i ≤ j))) H) : rLeI (.int i) (.int j) H Q := ⟨i, j, rfl, rfl, q⟩
theorem i_gtI {i j : Int} (q : Q (.bl (decide (j < i))) H) : rGtI (.int i) (.int j) H Q := ⟨i, j, rfl, rfl, q⟩
theorem i_geI {i j : Int} (q : Q (.bl (decide (j ≤ i))) H) : rGeI (.int i) (.int j) H Q := ⟨i, j, rfl, rfl, q⟩
theorem i_isN {x : V} (q : Q (.bl (decide (x = .non))) H) : rIsN x .non H Q := ⟨rfl, q⟩
theorem i_notN {x : V} (q : Q (.bl (!decide (x = .non))) H) : rNotN x .non H Q := ⟨rfl, q⟩
theorem i_isB {a b : Bool} (q : Q (.bl (decide (a = b))) H) : rIsB (.bl a) (.bl b) H Q := ⟨a, b, rfl, rfl, q⟩
theorem i_notB {a b : Bool} (q : Q (.bl (!decide (a = b))) H) : rNotB (.bl a) (.bl b) H Q := ⟨a, b, rfl, rfl, q⟩
theorem i_ixL {p : Addr} {xs : List V} {i : Int} {v : V} (h : SqL K H p xs) (ha : atI xs i = some v) (q : Q v H) : rIx K (.ref p) (.int i) H Q := .inl ⟨p, xs, i, v, rfl, rfl, h, ha, q⟩
theorem i_ixT {p : Addr} {xs : List V} {i : Int} {v : V} (h : SqT K H p xs) (ha : atI xs i = some v) (q : Q v H) : rIx K (.ref p) (.int i) H Q := .inr (.inl ⟨p, xs, i, v, rfl, rfl, h, ha, q⟩)
theorem i_ixLn {p : Addr} {xs : List V} {i : Int} {v : V} (h : SqL K H p xs) (h0 : 0 ≤ i) (ha : xs[i.toNat]? = some v) (q : Q v H) : rIx K (.ref p) (.int i) H Q := i_ixL h (by rw [show i = ((i.toNat : Nat) : Int) by omega, atI_nat]; exact ha) q
theorem i_ixTn {p : Addr} {xs : List V} {i : Int} {v : V} (h : SqT K H p xs) (h0 : 0 ≤ i) (ha : xs[i.toNat]? = some v) (q : Q v H) : rIx K (.ref p) (.int i) H Q := i_ixT h (by rw [show i = ((i.toNat : Nat) : Int) by omega, atI_nat]; exact ha) q
theorem i_eqD {x y : V} {d e : PyData} (hd : Dp K H x d) (he : Dp K H y e) (sd : SeqAt.shaped d = true) (se : SeqAt.shaped e = true) (q : Q (.bl (PyData.eqv d e)) H) : rEqD K x y H Q := ⟨d, e, hd, he, sd, se, q⟩
theorem i_neD {x y : V} {d e : PyData} (hd : Dp K H x d) (he : Dp K H y e) (sd : SeqAt.shaped d = true) (se : SeqAt.shaped e = true) (q : Q (.bl (!PyData.eqv d e)) H) : rNeD K x y H Q := ⟨d, e, hd, he, sd, se, q⟩
theorem i_eqI {i j : Int} (q : Q (.bl (i == j)) H) : rEqD K (.int i) (.int j) H Q := ⟨.int i, .int j, .int i, .int j, rfl, rfl, q⟩
theorem i_neI {i j : Int} (q : Q (.bl (!(i == j))) H) : rNeD K (.int i) (.int j) H Q := ⟨.int i, .int j, .int i, .int j, rfl, rfl, q⟩
theorem i_eqS {i j : Str} (hi : SeqAt.shaped (.str i) = true) (hj : SeqAt.shaped (.str j) = true) (q : Q (.bl (i == j)) H) : rEqD K (.str i) (.str j) H Q := ⟨.str i, .str j, .str i, .str j, hi, hj, q⟩
theorem i_neS {i j : Str} (hi : SeqAt.shaped (.str i) = true) (hj : SeqAt.shaped (.str j) = true) (q : Q (.bl (!(i == j))) H) : rNeD K (.str i) (.str j) H Q := ⟨.str i, .str j, .str i, .str j, hi, hj, q⟩
theorem i_eqB {i j : Bool} (q : Q (.bl (i == j)) H) : rEqD K (.bl i) (.bl j) H Q := ⟨.bool i, .bool j, .bl i, .bl j, rfl, rfl, q⟩
theorem i_neB {i j : Bool} (q : Q (.bl (!(i == j))) H) : rNeD K (.bl i) (.bl j) H Q := ⟨.bool i, .bool j, .bl i, .bl j, rfl, rfl, q⟩
theorem i_lenL {p : Addr} {xs : List V} (h : SqL K H p xs) (q : Q (.int (xs.length : Int)) H) : rLenA K [.ref p] H Q := ⟨_, xs.length, rfl, .inl ⟨xs, h, rfl⟩, q⟩
theorem i_lenT {p : Addr} {xs : List V} (h : SqT K H p xs) (q : Q (.int (xs.length : Int)) H) : rLenA K [.ref p] H Q := ⟨_, xs.length, rfl, .inr ⟨xs, h, rfl⟩, q⟩
theorem i_absI {i : Int} (q : Q (.int (if i < 0 then -i else i)) H) : rAbsI [.int i] H Q := ⟨i, rfl, q⟩
theorem i_intI {i : Int} (q : Q (.int i) H) : rIntC [.int i] H Q := .inl ⟨i, rfl, q⟩
theorem i_intB {b : Bool} (q : Q (.int (if b then 1 else 0)) H) : rIntC [.bl b] H Q := .inr ⟨b, rfl, q⟩
theorem i_min2 {i j : Int} (q : Q (.int (if j < i then j else i)) H) : rMin2 [.int i, .int j] H Q := ⟨i, j, rfl, q⟩
theorem i_max2 {i j : Int} (q : Q (.int (if j > i then j else i)) H) : rMax2 [.int i, .int j] H Q := ⟨i, j, rfl, q⟩
theorem i_listL {p : Addr} {xs : List V} (h : SqL K H p xs) (q : ∀ l, H l = none → Q (.ref l) (upd H l (.lst xs))) : rListC K [.ref p] H Q := ⟨p, xs, rfl, .inl h, q⟩
theorem i_listT {p : Addr} {xs : List V} (h : SqT K H p xs) (q : ∀ l, H l = none → Q (.ref l) (upd H l (.lst xs))) : rListC K [.ref p] H Q := ⟨p, xs, rfl, .inr h, q⟩
theorem i_tupL {p : Addr} {xs : List V} (h : SqL K H p xs) (q : ∀ l, H l = none → Q (.ref l) (upd H l (.tup xs))) : rTupC K [.ref p] H Q := ⟨p, xs, rfl, .inl ⟨h, q⟩⟩
theorem i_tupT {p : Addr} {xs : List V} (h : SqT K H p xs) (q : Q (.ref p) H) : rTupC K [.ref p] H Q := ⟨p, xs, rfl, .inr ⟨h, q⟩⟩
theorem i_app {l : Addr} {xs : List V} {y : V} (h : H l = some (.lst xs)) (hz : xs.length < sizeLine) (q : Q .non (upd H l (.lst (xs ++ [y])))) : rAppend (.ref l) [y] H Q := ⟨l, xs, y, rfl, rfl, h, hz, q⟩
theorem i_popL {l : Addr} {xs : List V} {y : V} (h : H l = some (.lst xs)) (hy : xs[xs.length - 1]? = some y) (q : Q y (upd H l (.lst xs.dropLast))) : rPop (.ref l) [] H Q := ⟨l, xs, y, rfl, rfl, h, hy, q⟩
theorem i_tyL {l : Addr} {xs : List V} {R : Prop} (h : SqL K H l xs) (q : R) : tyV K "list" (.ref l) H ∧ R := ⟨.inl ⟨rfl, _, h⟩, q⟩
theorem i_all {a : Addr} {bs : List Bool} (h : SqL K H a (bs.map V.bl)) (q : Q (.bl (bs.all id)) H) : rAll K [.ref a] H Q := ⟨a, bs, rfl, h, q⟩
theorem i_any {a : Addr} {bs : List Bool} (h : SqL K H a (bs.map V.bl)) (q : Q (.bl (bs.any id)) H) : rAny K [.ref a] H Q := ⟨a, bs, rfl, h, q⟩
theorem i_ite2 {c : Bool} {A B : Prop} (h1 : c = true → A) (h2 : c = false → B) : if c = true then A else B := by
  cases c with
  | true => exact h1 rfl
  | false => exact iteF (h2 rfl)
theorem i_iteT {c : Bool} {A B : Prop} (hc : c = true) (h : A) : if c = true then A else B := by subst hc; exact h
theorem i_iteF {c : Bool} {A B : Prop} (hc : c = false) (h : B) : if c = true then A else B := by subst hc; exact iteF h
/-! ### what stands -/
/-- all that H knows stands but what lies in fp -/
def Stays (fp : List Addr) (H H' : Hp) : Prop := ∀ b o, H b = some o → b ∉ fp → H' b = some o
theorem Stays.refl {fp : List Addr} (H : Hp) : Stays fp H H := fun _ _ h _ => h
theorem Stays.trans {fp : List Addr} {H H1 H2 : Hp} (a : Stays fp H H1) (b : Stays fp H1 H2) : Stays fp H H2 := fun c o h n => b c o (a c o h n) n
theorem Stays.wide {fp gp : List Addr} {H H' : Hp} (a : Stays fp H H') (h : ∀ b, b ∈ fp → b ∈ gp) : Stays gp H H' := fun c o e n => a c o e fun m => n (h c m)
theorem Stays.same {fp : List Addr} {H H' : Hp} (a : Same H H') : Stays fp H H' := fun c o e _ => a c o e
theorem Stays.get {fp : List Addr} {H H' : Hp} (a : Stays fp H H') {b : Addr} {o : HO} (h : H b = some o) (n : b ∉ fp) : H' b = some o := a b o h n
theorem Stays.put {fp : List Addr} {H H' : Hp} (a : Stays fp H H') {p : Addr} {o : HO} (h : p ∈ fp) : Stays fp H (L2.upd H' p o) := fun b u e n => by
  have hb : b ≠ p := fun z => n (z ▸ h)
  rw [upd_ne hb]
  exact a b u e n
theorem Stays.new {fp : List Addr} {H H' : Hp} (a : Stays fp H H') {p : Addr} {o : HO} (h : H p = none) : Stays fp H (upd H' p o) := fun b u e n => by
  rw [upd_ne (ne_of_none e h)]
  exact a b u e n
theorem same_new {H H' : Hp} (a : Same H H') {p : Addr} {o : HO} (h : H p = none) : Same H (upd H' p o) := fun b u e => by
  rw [upd_ne (ne_of_none e h)]
  exact a b u e
theorem Stays.free {fp : List Addr} {H H' : Hp} (a : Stays fp H H') {p : Addr} (hf : p ∉ fp) (h : H' p = none) : H p = none := by
  cases e : H p with
  | none => rfl
  | some o => rw [a p o e hf] at h; cases h
theorem same_free {H H' : Hp} (a : Same H H') {p : Addr} (h : H' p = none) : H p = none := by
  cases e : H p with
  | none => rfl
  | some o => rw [a p o e] at h; cases h
theorem same_nx {H H' : Hp} (a : Same H H') {p : Addr} {o : HO} (h : H' p = none) : Same H (upd H' p o) := same_new a (same_free a h)
theorem ne_fresh {H : Hp} {a b : Addr} {o : HO} (h' : H b = none) (h : H a = some o) : a ≠ b := ne_of_none h h'
theorem upd_at {H : Hp} {a b : Addr} {o u : HO} (n : b ≠ a) (h : H b = some u) : upd H a o b = some u := by rw [upd_ne n]; exact h
theorem upd_no {H : Hp} {a b : Addr} {o : HO} (n : b ≠ a) (h : H b = none) : upd H a o b = none := by rw [upd_ne n]; exact h
theorem Same.get {H H' : Hp} (a : Same H H') {b : Addr} {o : HO} (h : H b = some o) : H' b = some o := a b o h
theorem sqL {K : PySem.W.Frag} {H : Hp} {a : Addr} {xs : List V} (h : H a = some (.lst xs)) : SqL K H a xs := SqL.of h
theorem sqT {K : PySem.W.Frag} {H : Hp} {a : Addr} {xs : List V} (h : H a = some (.tup xs)) : SqT K H a xs := SqT.of h
end Rb
/-! Rb: data that stands in the heap (Dp), what keeps it, isinstance, in, ==. -/
namespace Rb
open PySem PySem.Spec PyProof.Rows L2
variable {K : PySem.W.Frag} {σ : L2.St} {H H' : Hp} {Q : VK}
/-! ### tuples stay -/
def isTupO : HO → Bool
  | .tup _ => true
  | .frz _ (.tup _) => true
  | _ => false
/-- every tuple stands -/
def Keep (H H' : Hp) : Prop := ∀ a u, H a = some u → isTupO u = true → H' a = some u
theorem Keep.refl (H : Hp) : Keep H H := fun _ _ h _ => h
theorem Keep.trans {H H1 H2 : Hp} (a : Keep H H1) (b : Keep H1 H2) : Keep H H2 := fun c u h t => b c u (a c u h t) t
theorem Keep.same (s : Same H H') : Keep H H' := fun a u h _ => s a u h
theorem Keep.stays {fp : List Addr} (s : Stays fp H H') (n : ∀ a ∈ fp, ∀ u, H a = some u → isTupO u = false) : Keep H H' := fun a u h t => s a u h fun m => by
  rw [n a m u h] at t
  cases t
theorem Keep.upd (k : Keep H H') {p : Addr} {o : HO} (n : ∀ u, H p = some u → isTupO u = false) : Keep H (L2.upd H' p o) := fun a u h t => by
  have hb : a ≠ p := fun z => by
    subst z
    rw [n u h] at t
    cases t
  rw [upd_ne hb]
  exact k a u h t
theorem Keep.new (k : Keep H H') {p : Addr} {o : HO} (h : H p = none) : Keep H (L2.upd H' p o) := k.upd fun u e => by rw [h] at e; cases e
theorem Keep.rd (k : Keep H H') {a : Addr} {xs : List V} (h : Rd H a (.tup xs)) : Rd H' a (.tup xs) := by
  rcases h with h | ⟨o, h⟩
  · exact .inl (k a _ h rfl)
  · exact .inr ⟨o, k a _ h rfl⟩
theorem Keep.sq (k : Keep H H') {a : Addr} {xs : List V} (h : SqT K H a xs) : SqT K H' a xs := by
  rcases h with h | h
  · exact .inl (k.rd h)
  · exact .inr h
mutual
/-- no list and no dict within -/
def tupOnly : PyData → Bool
  | .none | .bool _ | .int _ | .str _ => true
  | .tuple xs => tupAll xs
  | .list _ | .dict _ => false
def tupAll : List PyData → Bool
  | [] => true
  | x :: xs => tupOnly x && tupAll xs
end
mutual
theorem Dp.keep (k : Keep H H') : ∀ (d : PyData) (v : V), Dp K H v d → tupOnly d = true → Dp K H' v d
  | .none, _, h, _ => by cases h; exact .non
  | .bool b, _, h, _ => by cases h; exact .bl b
  | .int i, _, h, _ => by cases h; exact .int i
  | .str x, _, h, _ => by cases h; exact .str x
  | .list ds, _, _, t => by cases t
  | .dict _, _, _, t => by cases t
  | .tuple ds, _, h, t => by
    cases h with
    | tup hs ha => exact .tup (k.sq hs) (DpAll.keep k ds _ ha t)
theorem DpAll.keep (k : Keep H H') : ∀ (ds : List PyData) (vs : List V), DpAll K H vs ds → tupAll ds = true → DpAll K H' vs ds
  | [], _, h, _ => by cases h; exact .nil
  | d :: ds, _, h, t => by
    have t' : (tupOnly d && tupAll ds) = true := t
    rw [Bool.and_eq_true] at t'
    cases h with
    | cons h1 h2 => exact .cons (Dp.keep k d _ h1 t'.1) (DpAll.keep k ds _ h2 t'.2)
end
theorem sqL_same {H H' : Hp} (s : Same H H') {a : Addr} {xs : List V} (h : SqL K H a xs) : SqL K H' a xs := s.seq h
mutual
/-- where all stands -/
theorem Dp.same (s : Same H H') : ∀ (d : PyData) (v : V), Dp K H v d → Dp K H' v d
  | .none, _, h => by cases h; exact .non
  | .bool b, _, h => by cases h; exact .bl b
  | .int i, _, h => by cases h; exact .int i
  | .str x, _, h => by cases h; exact .str x
  | .list ds, _, h => by
    cases h with
    | lst hs ha => exact .lst (s.seq hs) (DpAll.same s ds _ ha)
  | .dict _, _, h => by cases h
  | .tuple ds, _, h => by
    cases h with
    | tup hs ha => exact .tup ((Keep.same s).sq hs) (DpAll.same s ds _ ha)
theorem DpAll.same (s : Same H H') : ∀ (ds : List PyData) (vs : List V), DpAll K H vs ds → DpAll K H' vs ds
  | [], _, h => by cases h; exact .nil
  | d :: ds, _, h => by
    cases h with
    | cons h1 h2 => exact .cons (Dp.same s d _ h1) (DpAll.same s ds _ h2)
end
theorem DpAll.length : ∀ {vs : List V} {ds : List PyData}, DpAll K H vs ds → vs.length = ds.length
  | _, _, .nil => rfl
  | _, _, .cons _ t => congrArg Nat.succ (DpAll.length t)
theorem DpAll.get : ∀ {vs : List V} {ds : List PyData} {i : Nat} {v : V}, DpAll K H vs ds → vs[i]? = some v → ∃ d, ds[i]? = some d ∧ Dp K H v d
  | _, _, _, _, .nil, e => by simp at e
  | _, _, 0, _, .cons h _, e => by simp at e; subst e; exact ⟨_, rfl, h⟩
  | _, _, i + 1, v, .cons _ t, e => by
    obtain ⟨d, h1, h2⟩ := DpAll.get (i := i) (v := v) t (by simpa using e)
    exact ⟨d, by simpa using h1, h2⟩
theorem DpAll.getD : ∀ {vs : List V} {ds : List PyData} {i : Nat} {d : PyData}, DpAll K H vs ds → ds[i]? = some d → ∃ v, vs[i]? = some v ∧ Dp K H v d
  | _, _, _, _, .nil, e => by simp at e
  | _, _, 0, _, .cons h _, e => by simp at e; subst e; exact ⟨_, rfl, h⟩
  | _, _, i + 1, d, .cons _ t, e => by
    obtain ⟨v, h1, h2⟩ := DpAll.getD (i := i) (d := d) t (by simpa using e)
    exact ⟨v, by simpa using h1, h2⟩
theorem DpAll.app : ∀ {vs ws : List V} {ds es : List PyData}, DpAll K H vs ds → DpAll K H ws es → DpAll K H (vs ++ ws) (ds ++ es)
  | _, _, _, _, .nil, h => h
  | _, _, _, _, .cons a t, h => .cons a (DpAll.app t h)
theorem DpAll.set : ∀ {vs : List V} {ds : List PyData} (i : Nat) {v : V} {d : PyData}, DpAll K H vs ds → Dp K H v d → DpAll K H (vs.set i v) (ds.set i d)
  | _, _, _, _, _, .nil, _ => .nil
  | _, _, 0, _, _, .cons _ t, h => .cons h t
  | _, _, i + 1, _, _, .cons a t, h => .cons a (DpAll.set i t h)
theorem DpAll.take : ∀ {vs : List V} {ds : List PyData} (n : Nat), DpAll K H vs ds → DpAll K H (vs.take n) (ds.take n)
  | _, _, 0, _ => .nil
  | _, _, _ + 1, .nil => .nil
  | _, _, n + 1, .cons a t => .cons a (DpAll.take n t)
theorem DpAll.drop : ∀ {vs : List V} {ds : List PyData} (n : Nat), DpAll K H vs ds → DpAll K H (vs.drop n) (ds.drop n)
  | _, _, 0, r => r
  | _, _, _ + 1, .nil => .nil
  | _, _, n + 1, .cons _ t => DpAll.drop n t
theorem DpAll.rep {v : V} {d : PyData} (h : Dp K H v d) : ∀ n : Nat, DpAll K H (List.replicate n v) (List.replicate n d)
  | 0 => .nil
  | n + 1 => .cons h (DpAll.rep h n)
theorem DpAll.ints : ∀ ns : List Int, DpAll K H (ns.map V.int) (ns.map PyData.int)
  | [] => .nil
  | n :: ns => .cons (.int n) (DpAll.ints ns)
/-- a tuple's data -/
theorem Dp.tupOf {v : V} {ds : List PyData} (h : Dp K H v (.tuple ds)) : ∃ a xs, v = .ref a ∧ SqT K H a xs ∧ DpAll K H xs ds := by
  cases h with
  | tup hs ha => exact ⟨_, _, rfl, hs, ha⟩
theorem Dp.intOf {v : V} {i : Int} (h : Dp K H v (.int i)) : v = .int i := by cases h; rfl
theorem Dp.strOf {v : V} {x : Str} (h : Dp K H v (.str x)) : v = .str x := by cases h; rfl
theorem Dp.nonOf {v : V} (h : Dp K H v .none) : v = .non := by cases h; rfl
theorem Dp.blOf {v : V} {b : Bool} (h : Dp K H v (.bool b)) : v = .bl b := by cases h; rfl
/-! ### isinstance -/
def tyN : PyData → String
  | .none => "NoneType" | .bool _ => "bool" | .int _ => "int" | .str _ => "str" | .list _ => "list" | .tuple _ => "tuple" | .dict _ => "dict"
theorem Dp.ty {v : V} {d : PyData} (h : Dp K H v d) : TyX K H v (.type (tyN d)) := by
  cases h with
  | non => exact .base .non
  | bl b => exact .base (.bl b)
  | int i => exact .base (.int i)
  | str x => exact .base (.str x)
  | lst hs _ =>
    rcases hs with (h | ⟨o, h⟩) | ⟨o, its, n, hk, hc, _⟩
    · exact .base (.lst h)
    · exact .base (.frz h)
    · exact .kList hk hc
  | tup hs _ =>
    rcases hs with (h | ⟨o, h⟩) | ⟨o, its, n, hk, hc, _⟩
    · exact .base (.tup h)
    · exact .fTuple h
    · exact .kTuple hk hc
def instB (d : PyData) (n : String) : Bool := match d, n with
  | .bool _, "int" => true
  | .bool _, "bool" => true
  | .int _, "int" => true
  | .str _, "str" => true
  | .list _, "list" => true
  | .tuple _, "tuple" => true
  | _, _ => false
theorem i_isi {v : V} {d : PyData} {n : String} (h : Dp K H v d) (e : PySem.W.kitOne K (.type (tyN d)) (.type n) = some (instB d n)) (q : Q (.bl (instB d n)) H) : rIsi K [v, .ty n] H Q :=
  ⟨v, .ty n, _, _, _, rfl, .ty n, Dp.ty h, e, q⟩
theorem kit_int (d : PyData) : PySem.W.kitOne K (.type (tyN d)) (.type "int") = some (instB d "int") := by
  cases d with
  | none => exact kit_ty (show kitB "NoneType" "int" = some false by decide +kernel)
  | bool _ => exact kit_ty (show kitB "bool" "int" = some true by decide +kernel)
  | int _ => exact kit_ty (show kitB "int" "int" = some true by decide +kernel)
  | str _ => exact kit_ty (show kitB "str" "int" = some false by decide +kernel)
  | list _ => exact kit_ty (show kitB "list" "int" = some false by decide +kernel)
  | tuple _ => exact kit_ty (show kitB "tuple" "int" = some false by decide +kernel)
  | dict _ => exact kit_ty (show kitB "dict" "int" = some false by decide +kernel)
theorem kit_bool (d : PyData) : PySem.W.kitOne K (.type (tyN d)) (.type "bool") = some (instB d "bool") := by
  cases d with
  | none => exact kit_ty (show kitB "NoneType" "bool" = some false by decide +kernel)
  | bool _ => exact kit_ty (show kitB "bool" "bool" = some true by decide +kernel)
  | int _ => exact kit_ty (show kitB "int" "bool" = some false by decide +kernel)
  | str _ => exact kit_ty (show kitB "str" "bool" = some false by decide +kernel)
  | list _ => exact kit_ty (show kitB "list" "bool" = some false by decide +kernel)
  | tuple _ => exact kit_ty (show kitB "tuple" "bool" = some false by decide +kernel)
  | dict _ => exact kit_ty (show kitB "dict" "bool" = some false by decide +kernel)
theorem kit_str (d : PyData) : PySem.W.kitOne K (.type (tyN d)) (.type "str") = some (instB d "str") := by
  cases d with
  | none => exact kit_ty (show kitB "NoneType" "str" = some false by decide +kernel)
  | bool _ => exact kit_ty (show kitB "bool" "str" = some false by decide +kernel)
  | int _ => exact kit_ty (show kitB "int" "str" = some false by decide +kernel)
  | str _ => exact kit_ty (show kitB "str" "str" = some true by decide +kernel)
  | list _ => exact kit_ty (show kitB "list" "str" = some false by decide +kernel)
  | tuple _ => exact kit_ty (show kitB "tuple" "str" = some false by decide +kernel)
  | dict _ => exact kit_ty (show kitB "dict" "str" = some false by decide +kernel)
theorem kit_tuple (d : PyData) : PySem.W.kitOne K (.type (tyN d)) (.type "tuple") = some (instB d "tuple") := by
  cases d with
  | none => exact kit_ty (show kitB "NoneType" "tuple" = some false by decide +kernel)
  | bool _ => exact kit_ty (show kitB "bool" "tuple" = some false by decide +kernel)
  | int _ => exact kit_ty (show kitB "int" "tuple" = some false by decide +kernel)
  | str _ => exact kit_ty (show kitB "str" "tuple" = some false by decide +kernel)
  | list _ => exact kit_ty (show kitB "list" "tuple" = some false by decide +kernel)
  | tuple _ => exact kit_ty (show kitB "tuple" "tuple" = some true by decide +kernel)
  | dict _ => exact kit_ty (show kitB "dict" "tuple" = some false by decide +kernel)
theorem kit_list (d : PyData) : PySem.W.kitOne K (.type (tyN d)) (.type "list") = some (instB d "list") := by
  cases d with
  | none => exact kit_ty (show kitB "NoneType" "list" = some false by decide +kernel)
  | bool _ => exact kit_ty (show kitB "bool" "list" = some false by decide +kernel)
  | int _ => exact kit_ty (show kitB "int" "list" = some false by decide +kernel)
  | str _ => exact kit_ty (show kitB "str" "list" = some false by decide +kernel)
  | list _ => exact kit_ty (show kitB "list" "list" = some true by decide +kernel)
  | tuple _ => exact kit_ty (show kitB "tuple" "list" = some false by decide +kernel)
  | dict _ => exact kit_ty (show kitB "dict" "list" = some false by decide +kernel)
theorem i_isiInt {v : V} {d : PyData} (h : Dp K H v d) (q : Q (.bl (instB d "int")) H) : rIsi K [v, .ty "int"] H Q := i_isi h (kit_int d) q
theorem i_isiBool {v : V} {d : PyData} (h : Dp K H v d) (q : Q (.bl (instB d "bool")) H) : rIsi K [v, .ty "bool"] H Q := i_isi h (kit_bool d) q
theorem i_isiStr {v : V} {d : PyData} (h : Dp K H v d) (q : Q (.bl (instB d "str")) H) : rIsi K [v, .ty "str"] H Q := i_isi h (kit_str d) q
theorem i_isiTup {v : V} {d : PyData} (h : Dp K H v d) (q : Q (.bl (instB d "tuple")) H) : rIsi K [v, .ty "tuple"] H Q := i_isi h (kit_tuple d) q
theorem i_isiList {v : V} {d : PyData} (h : Dp K H v d) (q : Q (.bl (instB d "list")) H) : rIsi K [v, .ty "list"] H Q := i_isi h (kit_list d) q
/-! ### shapes -/
theorem shaped_int (i : Int) : SeqAt.shaped (.int i) = true := rfl
theorem shaped_none : SeqAt.shaped .none = true := rfl
theorem shaped_bool (b : Bool) : SeqAt.shaped (.bool b) = true := rfl
/-! ### slices of tuples -/
theorem cut_take (xs : List V) (n : Nat) (h : n ≤ xs.length) : cutV xs none (some (n : Int)) = xs.take n := by
  unfold cutV
  rw [HT.sIx_none, HT.sIx_nat, List.drop_zero, Nat.sub_zero, Nat.min_eq_left h]
theorem cut_drop (xs : List V) (n : Nat) (h : n ≤ xs.length) : cutV xs (some (n : Int)) none = xs.drop n := by
  unfold cutV
  rw [HT.sIx_none, HT.sIx_nat, Nat.min_eq_left h]
  exact List.take_of_length_le (by simp)
theorem i_slTake {a : Addr} {xs : List V} {n : Nat} (hs : SqT K H a xs) (h : n ≤ xs.length) (q : ∀ (p : Addr) (H' : Hp), Same H H' → SqT K H' p (xs.take n) → Q (.ref p) H') : rSlX K (.ref a) none (some (n : Int)) H Q := by
  refine .inr ⟨a, xs, rfl, hs, fun w => ?_, fun _ p hp => ?_⟩
  · obtain ⟨_, w2⟩ := w
    rw [HT.sIx_nat, Nat.min_eq_left h] at w2
    exact q a H (Same.refl H) (by rw [w2, List.take_length]; exact hs)
  · rw [cut_take xs n h]
    exact q p _ (same_new (Same.refl H) hp) (sqT upd_same)
theorem i_slDrop {a : Addr} {xs : List V} {n : Nat} (hs : SqT K H a xs) (h : n ≤ xs.length) (q : ∀ (p : Addr) (H' : Hp), Same H H' → SqT K H' p (xs.drop n) → Q (.ref p) H') : rSlX K (.ref a) (some (n : Int)) none H Q := by
  refine .inr ⟨a, xs, rfl, hs, fun w => ?_, fun _ p hp => ?_⟩
  · obtain ⟨w1, _⟩ := w
    rw [HT.sIx_nat, Nat.min_eq_left h] at w1
    exact q a H (Same.refl H) (by rw [w1, List.drop_zero]; exact hs)
  · rw [cut_drop xs n h]
    exact q p _ (same_new (Same.refl H) hp) (sqT upd_same)
/-- t + u -/
theorem i_catT {a b : Addr} {xs ys : List V} (ha : SqT K H a xs) (hb : SqT K H b ys) (hl : xs.length + ys.length ≤ sizeLine) (q : ∀ (p : Addr) (H' : Hp), Same H H' → SqT K H' p (xs ++ ys) → Q (.ref p) H') : rAddA K (.ref a) (.ref b) H Q := by
  refine i_addT ha hb hl (fun e => ?_) (fun _ e => ?_) fun _ _ p hp => ?_
  · subst e
    exact q b H (Same.refl H) hb
  · subst e
    exact q a H (Same.refl H) (by rw [List.append_nil]; exact ha)
  · exact q p _ (same_new (Same.refl H) hp) (sqT upd_same)
/-! ### shapes, step by step -/
def Sh (n : Nat) (d : PyData) : Prop := d.canLay0 = true ∧ d.depth ≤ n
theorem Sh.shaped {n : Nat} {d : PyData} (h : Sh n d) (hn : n ≤ 64) : SeqAt.shaped d = true := by
  unfold SeqAt.shaped
  rw [h.1, decide_eq_true (Nat.le_trans h.2 hn)]
  rfl
theorem Sh.refl {n : Nat} {d : PyData} (h : Sh n d) : PyData.eqv d d = true := SeqAt.eqv_refl d h.1
theorem Sh.int {n : Nat} (i : Int) : Sh (n + 1) (.int i) := ⟨by simp [PyData.canLay0], by simp [PyData.depth]⟩
theorem Sh.none {n : Nat} : Sh (n + 1) .none := ⟨by simp [PyData.canLay0], by simp [PyData.depth]⟩
theorem Sh.bool {n : Nat} (b : Bool) : Sh (n + 1) (.bool b) := ⟨by simp [PyData.canLay0], by simp [PyData.depth]⟩
theorem Sh.str {n : Nat} (x : Str) (h : (PyData.str x).canLay0 = true) : Sh (n + 1) (.str x) := ⟨h, by simp [PyData.depth]⟩
theorem Sh.all {n : Nat} : ∀ ds : List PyData, (∀ d ∈ ds, Sh n d) → PyData.canLayAll0 ds = true ∧ PyData.depthAll ds ≤ n
  | [], _ => ⟨by simp [PyData.canLayAll0], by simp [PyData.depthAll]⟩
  | d :: ds, h => by
    have h1 := h d (by simp)
    have h2 := Sh.all ds fun e m => h e (by simp [m])
    refine ⟨by simp [PyData.canLayAll0, h1.1, h2.1], ?_⟩
    have a := h1.2
    have b := h2.2
    simp only [PyData.depthAll]
    omega
theorem Sh.tup {n : Nat} {ds : List PyData} (h : ∀ d ∈ ds, Sh n d) : Sh (n + 1) (.tuple ds) := by
  have a := Sh.all ds h
  refine ⟨by simp [PyData.canLay0, a.1], ?_⟩
  have b := a.2
  simp only [PyData.depth]
  omega
theorem Sh.lst {n : Nat} {ds : List PyData} (h : ∀ d ∈ ds, Sh n d) : Sh (n + 1) (.list ds) := by
  have a := Sh.all ds h
  refine ⟨by simp [PyData.canLay0, a.1], ?_⟩
  have b := a.2
  simp only [PyData.depth]
  omega
theorem Sh.mono {m n : Nat} {d : PyData} (h : Sh m d) (k : m ≤ n) : Sh n d := ⟨h.1, Nat.le_trans h.2 k⟩
theorem Sh.tup1 {n : Nat} {a : PyData} (ha : Sh n a) : Sh (n + 1) (.tuple [a]) := Sh.tup (by simp [ha])
theorem Sh.tup2 {n : Nat} {a b : PyData} (ha : Sh n a) (hb : Sh n b) : Sh (n + 1) (.tuple [a, b]) := Sh.tup (by simp [ha, hb])
theorem Sh.tup3 {n : Nat} {a b c : PyData} (ha : Sh n a) (hb : Sh n b) (hc : Sh n c) : Sh (n + 1) (.tuple [a, b, c]) := Sh.tup (by simp [ha, hb, hc])
end Rb
/-! Rb: loops and comprehensions by an invariant of the turn. -/
namespace Rb
open PySem PySem.Spec PyProof.Rows L2
variable {K : PySem.W.Frag} {σ : L2.St} {H : Hp} {D : Ends} {Q : VK} {E : XK}
theorem i_for {wi : TI} {g : TG} {tb : TS} (h : wi σ H fun J H1 => ∃ W : Nat → Nat → L2.St → Hp → Prop, (∃ m, W 0 m σ H1) ∧ ∀ (i m : Nat) (σ : L2.St) (H : Hp), W i m σ H → J.stop i H ∧ D.nx σ H ∨ J.go i H ∧ ∃ N : L2.St → Hp → Prop, (∀ σ' H', N σ' H' → ∃ m', m' < m ∧ W (i + 1) m' σ' H') ∧
    ∀ x H', J.yld i H x H' → g x σ H' fun σ2 H2 => tb { nx := N, rt := D.rt, bk := D.nx, ct := N } σ2 H2) : tFor wi g tb D σ H := h
theorem i_lock {t : TS} (h : tLock t D σ H) : tLock t D σ H := h
theorem i_rng1 {ta : TA} {R : It → Hp → Prop} (h : ta σ H fun vs H1 => ∃ j : Int, vs = [.int j] ∧ -(2 ^ 62) ≤ j ∧ j < 2 ^ 62 ∧ R (Itr 0 j.toNat) H1) : iRng1 ta σ H R := h
theorem i_rng1In {n : Int} {R : Int → Prop} (h1 : -(2 ^ 62) ≤ n) (h2 : n < 2 ^ 62) (q : R n) : ∃ j : Int, [V.int n] = [.int j] ∧ -(2 ^ 62) ≤ j ∧ j < 2 ^ 62 ∧ R j := ⟨n, rfl, h1, h2, q⟩
theorem i_rng2 {ta : TA} {R : It → Hp → Prop} (h : ta σ H fun vs H1 => ∃ i j : Int, vs = [.int i, .int j] ∧ (-(2 ^ 62) ≤ i ∧ i < 2 ^ 62 ∧ -(2 ^ 62) ≤ j ∧ j < 2 ^ 62) ∧ R (Itr i (j - i).toNat) H1) : iRng2 ta σ H R := h
theorem i_rng2In {i j : Int} {R : Int → Int → Prop} (h : -(2 ^ 62) ≤ i ∧ i < 2 ^ 62 ∧ -(2 ^ 62) ≤ j ∧ j < 2 ^ 62) (q : R i j) : ∃ i' j' : Int, [V.int i, V.int j] = [.int i', .int j'] ∧ (-(2 ^ 62) ≤ i' ∧ i' < 2 ^ 62 ∧ -(2 ^ 62) ≤ j' ∧ j' < 2 ^ 62) ∧ R i' j' := ⟨i, j, rfl, h, q⟩
theorem i_list {tl : TE} {R : It → Hp → Prop} (h : tl σ H fun x H1 => ∃ a, x = .ref a ∧ (∃ xs, SqL K H1 a xs) ∧ R (Itl K a) H1) : iList K tl σ H R := h
theorem i_listIn {a : Addr} {xs : List V} {R : Addr → Prop} (h : SqL K H a xs) (q : R a) : ∃ a', V.ref a = .ref a' ∧ (∃ xs, SqL K H a' xs) ∧ R a' := ⟨a, rfl, ⟨xs, h⟩, q⟩
theorem i_tupI {tl : TE} {R : It → Hp → Prop} (h : tl σ H fun x H1 => ∃ a, x = .ref a ∧ (∃ xs, SqT K H1 a xs) ∧ R (Itt K a) H1) : iTup K tl σ H R := h
theorem i_tupIn {a : Addr} {xs : List V} {R : Addr → Prop} (h : SqT K H a xs) (q : R a) : ∃ a', V.ref a = .ref a' ∧ (∃ xs, SqT K H a' xs) ∧ R a' := ⟨a, rfl, ⟨xs, h⟩, q⟩
/-! ### for -/
theorem f_rng {lo : Int} {n : Nat} {g : TG} {tb : TS} (I : Nat → L2.St → Hp → Prop) (h0 : I 0 σ H)
    (step : ∀ k σ' H', k < n → I k σ' H' → g (.int (lo + k)) σ' H' fun σ2 H2 => tb { nx := I (k + 1), rt := D.rt, bk := D.nx, ct := I (k + 1) } σ2 H2)
    (fin : ∀ σ' H', I n σ' H' → D.nx σ' H') :
    ∃ W : Nat → Nat → L2.St → Hp → Prop, (∃ m, W 0 m σ H) ∧ ∀ (i m : Nat) (σ : L2.St) (H : Hp), W i m σ H → (Itr lo n).stop i H ∧ D.nx σ H ∨ (Itr lo n).go i H ∧ ∃ N : L2.St → Hp → Prop, (∀ σ' H', N σ' H' → ∃ m', m' < m ∧ W (i + 1) m' σ' H') ∧
    ∀ x H', (Itr lo n).yld i H x H' → g x σ H' fun σ2 H2 => tb { nx := N, rt := D.rt, bk := D.nx, ct := N } σ2 H2 := by
  refine ⟨fun i m σ H => i + m = n ∧ I i σ H, ⟨n, by omega, h0⟩, fun i m σ1 H1 ⟨e, hi⟩ => ?_⟩
  by_cases c : i < n
  · refine .inr ⟨c, I (i + 1), fun σ' H' h' => ⟨m - 1, by omega, by omega, h'⟩, fun x H' y => ?_⟩
    obtain ⟨rfl, rfl⟩ := y
    exact step i σ1 H' c hi
  · refine .inl ⟨Nat.le_of_not_lt c, ?_⟩
    have : i = n := by omega
    subst this
    exact fin _ _ hi
theorem f_list {a : Addr} {g : TG} {tb : TS} (xs : List V) (I : Nat → L2.St → Hp → Prop) (hs : ∀ k σ' H', I k σ' H' → SqL K H' a xs) (h0 : I 0 σ H)
    (step : ∀ k x σ' H', xs[k]? = some x → I k σ' H' → g x σ' H' fun σ2 H2 => tb { nx := I (k + 1), rt := D.rt, bk := D.nx, ct := I (k + 1) } σ2 H2)
    (fin : ∀ σ' H', I xs.length σ' H' → D.nx σ' H') :
    ∃ W : Nat → Nat → L2.St → Hp → Prop, (∃ m, W 0 m σ H) ∧ ∀ (i m : Nat) (σ : L2.St) (H : Hp), W i m σ H → (Itl K a).stop i H ∧ D.nx σ H ∨ (Itl K a).go i H ∧ ∃ N : L2.St → Hp → Prop, (∀ σ' H', N σ' H' → ∃ m', m' < m ∧ W (i + 1) m' σ' H') ∧
    ∀ x H', (Itl K a).yld i H x H' → g x σ H' fun σ2 H2 => tb { nx := N, rt := D.rt, bk := D.nx, ct := N } σ2 H2 := by
  refine ⟨fun i m σ H => i + m = xs.length ∧ I i σ H, ⟨xs.length, by omega, h0⟩, fun i m σ1 H1 ⟨e, hi⟩ => ?_⟩
  by_cases c : i < xs.length
  · refine .inr ⟨⟨xs, xs[i], hs _ _ _ hi, List.getElem?_eq_getElem c⟩, I (i + 1), fun σ' H' h' => ⟨m - 1, by omega, by omega, h'⟩, fun x H' y => ?_⟩
    obtain ⟨rfl, y⟩ := y
    exact step i x σ1 H' (y xs (hs _ _ _ hi)) hi
  · refine .inl ⟨⟨xs, hs _ _ _ hi, Nat.le_of_not_lt c⟩, ?_⟩
    have : i = xs.length := by omega
    subst this
    exact fin _ _ hi
theorem f_tup {a : Addr} {g : TG} {tb : TS} (xs : List V) (I : Nat → L2.St → Hp → Prop) (hs : ∀ k σ' H', I k σ' H' → SqT K H' a xs) (h0 : I 0 σ H)
    (step : ∀ k x σ' H', xs[k]? = some x → I k σ' H' → g x σ' H' fun σ2 H2 => tb { nx := I (k + 1), rt := D.rt, bk := D.nx, ct := I (k + 1) } σ2 H2)
    (fin : ∀ σ' H', I xs.length σ' H' → D.nx σ' H') :
    ∃ W : Nat → Nat → L2.St → Hp → Prop, (∃ m, W 0 m σ H) ∧ ∀ (i m : Nat) (σ : L2.St) (H : Hp), W i m σ H → (Itt K a).stop i H ∧ D.nx σ H ∨ (Itt K a).go i H ∧ ∃ N : L2.St → Hp → Prop, (∀ σ' H', N σ' H' → ∃ m', m' < m ∧ W (i + 1) m' σ' H') ∧
    ∀ x H', (Itt K a).yld i H x H' → g x σ H' fun σ2 H2 => tb { nx := N, rt := D.rt, bk := D.nx, ct := N } σ2 H2 := by
  refine ⟨fun i m σ H => i + m = xs.length ∧ I i σ H, ⟨xs.length, by omega, h0⟩, fun i m σ1 H1 ⟨e, hi⟩ => ?_⟩
  by_cases c : i < xs.length
  · refine .inr ⟨⟨xs, xs[i], hs _ _ _ hi, List.getElem?_eq_getElem c⟩, I (i + 1), fun σ' H' h' => ⟨m - 1, by omega, by omega, h'⟩, fun x H' y => ?_⟩
    obtain ⟨rfl, y⟩ := y
    exact step i x σ1 H' (y xs (hs _ _ _ hi)) hi
  · refine .inl ⟨⟨xs, hs _ _ _ hi, Nat.le_of_not_lt c⟩, ?_⟩
    have : i = xs.length := by omega
    subst this
    exact fin _ _ hi
/-! ### comprehensions -/
/-- what a comprehension asks of its iterator -/
def LcOf (J : It) (g : TG) (tt : TT) (te : TE) (vs : List Nat) (σ : L2.St) (Q : VK) (H1 : Hp) : Prop := ∀ D : Addr, H1 D = none → ∃ W : Nat → Nat → Hp → Prop, (∃ m, W 0 m (upd H1 D (.lst []))) ∧ ∀ (i m : Nat) (H : Hp), W i m H → J.stop i H ∧ Q (.ref D) H ∨ J.go i H ∧ ∃ Nx : Hp → Prop,
    (∀ H', Nx H' → ∃ m', m' < m ∧ W (i + 1) m' H') ∧ ∀ x H', J.yld i H x H' → g x (wipe σ vs) H' fun σ2 H2 => wipe σ2 vs = wipe σ vs ∧ tt σ2 H2 fun b H3 => if b = true then te σ2 H3 fun y H4 => ∃ acc, H4 D = some (.lst acc) ∧ acc.length < sizeLine ∧ Nx (upd H4 D (.lst (acc ++ [y]))) else Nx H3
theorem i_lc {wi : TI} {g : TG} {tt : TT} {te : TE} {vs : List Nat} (h : wi σ H fun J H1 => LcOf J g tt te vs σ Q H1) : tLc wi g tt te vs σ H Q := h
theorem i_yes {R : Bool → Hp → Prop} (h : R true H) : tYes σ H R := h
theorem wipe_set (σ : L2.St) (v : Nat) (x : Option V) : wipe ((wipe σ [v]).set v x) [v] = wipe σ [v] := by
  show List.set (List.set (List.set σ v none) v x) v none = List.set σ v none
  rw [List.set_set, List.set_set]
/-- what a turn asks of the value it takes -/
def LcPut (D : Addr) (k : Nat) (I : Nat → List V → Hp → Prop) (y : V) (H4 : Hp) : Prop := ∃ acc, H4 D = some (.lst acc) ∧ acc.length < sizeLine ∧ ∃ acc', acc'.length = k + 1 ∧ (upd H4 D (.lst (acc ++ [y]))) D = some (.lst acc') ∧ I (k + 1) acc' (upd H4 D (.lst (acc ++ [y])))
theorem lc_put {D : Addr} {k : Nat} {I : Nat → List V → Hp → Prop} {y : V} {acc : List V} (h : H D = some (.lst acc)) (hl : acc.length = k) (hk : k < 4000) (q : I (k + 1) (acc ++ [y]) (upd H D (.lst (acc ++ [y])))) : LcPut D k I y H :=
  ⟨acc, h, by rw [sizeLine_eq]; omega, acc ++ [y], by rw [List.length_append]; simp [hl], upd_same, q⟩
/-- over numbers, all taken, one name -/
theorem lc_rng {lo : Int} {n v : Nat} {te : TE} (I : Nat → List V → Hp → Prop) (h0 : ∀ D, H D = none → I 0 [] (upd H D (.lst [])))
    (step : ∀ k D acc H', k < n → acc.length = k → H D = none → H' D = some (.lst acc) → I k acc H' → te ((wipe σ [v]).set v (some (.int (lo + k)))) H' fun y H4 => LcPut D k I y H4)
    (fin : ∀ D acc H', acc.length = n → H D = none → H' D = some (.lst acc) → I n acc H' → Q (.ref D) H') :
    LcOf (Itr lo n) (gName v) tYes te [v] σ Q H := by
  intro D hD
  refine ⟨fun i m H' => i + m = n ∧ ∃ acc, acc.length = i ∧ H' D = some (.lst acc) ∧ I i acc H', ⟨n, by omega, [], rfl, upd_same, h0 D hD⟩, fun i m H1 ⟨e, acc, hl, ha, hi⟩ => ?_⟩
  by_cases c : i < n
  · refine .inr ⟨c, fun H' => ∃ acc, acc.length = i + 1 ∧ H' D = some (.lst acc) ∧ I (i + 1) acc H', fun H' h' => ⟨m - 1, by omega, by omega, h'⟩, fun x H' y => ?_⟩
    obtain ⟨rfl, rfl⟩ := y
    exact ⟨wipe_set σ v _, step i D acc H' c hl hD ha hi⟩
  · refine .inl ⟨Nat.le_of_not_lt c, ?_⟩
    have : i = n := by omega
    subst this
    exact fin D acc _ hl hD ha hi
/-- over a list or a tuple that stands, all taken, one name -/
theorem lc_list {a : Addr} {v : Nat} {te : TE} (xs : List V) (I : Nat → List V → Hp → Prop) (hs : ∀ k D acc H', H D = none → H' D = some (.lst acc) → I k acc H' → SqL K H' a xs) (h0 : ∀ D, H D = none → I 0 [] (upd H D (.lst [])))
    (step : ∀ k x D acc H', xs[k]? = some x → acc.length = k → H D = none → H' D = some (.lst acc) → I k acc H' → te ((wipe σ [v]).set v (some x)) H' fun y H4 => LcPut D k I y H4)
    (fin : ∀ D acc H', acc.length = xs.length → H D = none → H' D = some (.lst acc) → I xs.length acc H' → Q (.ref D) H') :
    LcOf (Itl K a) (gName v) tYes te [v] σ Q H := by
  intro D hD
  refine ⟨fun i m H' => i + m = xs.length ∧ ∃ acc, acc.length = i ∧ H' D = some (.lst acc) ∧ I i acc H', ⟨xs.length, by omega, [], rfl, upd_same, h0 D hD⟩, fun i m H1 ⟨e, acc, hl, ha, hi⟩ => ?_⟩
  by_cases c : i < xs.length
  · refine .inr ⟨⟨xs, xs[i], hs _ _ _ _ hD ha hi, List.getElem?_eq_getElem c⟩, fun H' => ∃ acc, acc.length = i + 1 ∧ H' D = some (.lst acc) ∧ I (i + 1) acc H', fun H' h' => ⟨m - 1, by omega, by omega, h'⟩, fun x H' y => ?_⟩
    obtain ⟨rfl, y⟩ := y
    exact ⟨wipe_set σ v _, step i x D acc H' (y xs (hs _ _ _ _ hD ha hi)) hl hD ha hi⟩
  · refine .inl ⟨⟨xs, hs _ _ _ _ hD ha hi, Nat.le_of_not_lt c⟩, ?_⟩
    have : i = xs.length := by omega
    subst this
    exact fin D acc _ hl hD ha hi
theorem lc_tup {a : Addr} {v : Nat} {te : TE} (xs : List V) (I : Nat → List V → Hp → Prop) (hs : ∀ k D acc H', H D = none → H' D = some (.lst acc) → I k acc H' → SqT K H' a xs) (h0 : ∀ D, H D = none → I 0 [] (upd H D (.lst [])))
    (step : ∀ k x D acc H', xs[k]? = some x → acc.length = k → H D = none → H' D = some (.lst acc) → I k acc H' → te ((wipe σ [v]).set v (some x)) H' fun y H4 => LcPut D k I y H4)
    (fin : ∀ D acc H', acc.length = xs.length → H D = none → H' D = some (.lst acc) → I xs.length acc H' → Q (.ref D) H') :
    LcOf (Itt K a) (gName v) tYes te [v] σ Q H := by
  intro D hD
  refine ⟨fun i m H' => i + m = xs.length ∧ ∃ acc, acc.length = i ∧ H' D = some (.lst acc) ∧ I i acc H', ⟨xs.length, by omega, [], rfl, upd_same, h0 D hD⟩, fun i m H1 ⟨e, acc, hl, ha, hi⟩ => ?_⟩
  by_cases c : i < xs.length
  · refine .inr ⟨⟨xs, xs[i], hs _ _ _ _ hD ha hi, List.getElem?_eq_getElem c⟩, fun H' => ∃ acc, acc.length = i + 1 ∧ H' D = some (.lst acc) ∧ I (i + 1) acc H', fun H' h' => ⟨m - 1, by omega, by omega, h'⟩, fun x H' y => ?_⟩
    obtain ⟨rfl, y⟩ := y
    exact ⟨wipe_set σ v _, step i x D acc H' (y xs (hs _ _ _ _ hD ha hi)) hl hD ha hi⟩
  · refine .inl ⟨⟨xs, hs _ _ _ _ hD ha hi, Nat.le_of_not_lt c⟩, ?_⟩
    have : i = xs.length := by omega
    subst this
    exact fin D acc _ hl hD ha hi
end Rb
namespace Rb13
open PySem PySem.Spec PyProof.Rows L2 Rb
/-! rows of the walk: lk (what stands at an address), ne, sq, sz, i (one step), go (steps) -/
local macro_rules | `(tactic| walk_at "ne") => `(tactic| first | assumption | (refine Ne.symm ?_; assumption) | exact ne_fresh (by assumption) (by walk_at "lk") | exact (ne_fresh (by assumption) (by walk_at "lk")).symm | exact ne_of (by walk_at "lk") (by walk_at "lk") (by intro z; cases z))
local macro_rules | `(tactic| walk_at "lk") => `(tactic| first | assumption | exact upd_same | ((with_reducible refine upd_at ?n ?h); (case n => walk_at "ne"); (case h => walk_at "lk")) | (refine Same.get (by assumption) ?_; walk_at "lk"))
local macro_rules | `(tactic| walk_at "sq") => `(tactic| first | assumption | exact sqL (by walk_at "lk") | exact sqT (by walk_at "lk"))
local macro_rules | `(tactic| walk_at "sz") => `(tactic| (rw [sizeLine_eq]; first | exact Nat.le_of_ble_eq_true rfl | omega))
local macro_rules | `(tactic| walk_at "i1") => `(tactic| with_reducible first
  | refine i_seq ?_ | refine i_asg ?_ | refine i_gname ?_ | refine i_ret ?_ | refine i_next ?_ | refine i_drop ?_ | refine i_ifS ?_ | refine i_gsub ?_ | refine i_augS ?_ | refine i_sfld ?_ | refine i_cont ?_ | refine i_retN ?_
  | refine i_op ?_ | refine i_c ?_ | refine i_cons ?_ | refine i_nil ?_ | refine i_cb ?_ | refine i_test ?_ | refine i_tru ?_ | refine i_not ?_ | refine i_and ?_ | refine i_or ?_ | refine i_B ?_ | refine i_fld ?_ | refine i_call ?_ | refine i_meth ?_ | refine i_make ?_
  | refine i_tup ?_ | refine i_lst ?_ | refine i_un ?_ | refine i_bm ?_ | refine i_bm0 ?_ | refine i_sl ?_ | refine i_nopart ?_ | refine i_part ?_ | refine i_partIn ?_ | refine i_chain ?_ | refine i_andV ?_ | refine i_orV ?_ | refine i_notV ?_ | refine i_if ?_ | refine i_dnew ?_
  | refine i_bl ?_ | refine i_blC ?_ | refine i_truB ?_ | refine i_neg ?_ | refine i_addI ?_ | refine i_addI2 ?_ | refine i_subI ?_ | refine i_ltI ?_ | refine i_leI ?_ | refine i_gtI ?_ | refine i_geI ?_ | refine i_isN ?_ | refine i_notN ?_ | refine i_isB ?_ | refine i_notB ?_ | refine i_eqI ?_ | refine i_neI ?_ | refine i_eqB ?_ | refine i_neB ?_
  | refine i_absI ?_ | refine i_intI ?_ | refine i_intB ?_ | refine i_min2 ?_ | refine i_max2 ?_ | refine i_ipI ?_ | refine i_gnil ?_ | refine i_gcons ?_
  | refine i_for ?_ | refine i_lc ?_ | refine i_rng1 ?_ | refine i_rng2 ?_ | refine i_list ?_ | refine i_tupI ?_ | refine i_yes ?_ | refine i_dget2 ?_ | refine i_din ?_ | refine i_dput ?_)
local macro_rules | `(tactic| walk_at "i") => `(tactic| first
  | walk_at "i1"
  | ((with_reducible refine' i_var ?h ?_); (case h => exact rfl))
  | ((with_reducible refine' i_aug ?h ?_); (case h => exact rfl))
  | ((with_reducible refine' i_ixL ?h ?a ?_); (case h => walk_at "sq"); (case a => exact rfl))
  | ((with_reducible refine' i_ixT ?h ?a ?_); (case h => walk_at "sq"); (case a => exact rfl))
  | ((with_reducible refine' i_ixLn ?h ?b ?a ?_); (case h => walk_at "sq"); (case b => decide); (case a => exact rfl))
  | ((with_reducible refine' i_ixTn ?h ?b ?a ?_); (case h => walk_at "sq"); (case b => decide); (case a => exact rfl))
  | ((with_reducible refine' i_getL ?h ?a ?b ?_); (case h => walk_at "sq"); (case a => decide); (case b => exact rfl))
  | ((with_reducible refine' i_setL ?h ?a ?_); (case h => walk_at "lk"); (case a => exact rfl))
  | ((with_reducible refine' i_mulI ?h ?_); (case h => first | exact Or.inr (by decide) | exact Or.inl (by decide)))
  | ((with_reducible refine' i_divI ?h ?_); (case h => first | exact (by decide) | exact ⟨by omega, by omega⟩))
  | ((with_reducible refine' i_modI ?h ?_); (case h => first | exact (by decide) | omega))
  | ((with_reducible refine' i_powI ?h ?_); (case h => exact ⟨by decide, by decide, by decide⟩))
  | ((with_reducible refine' i_eqS ?a ?b ?_); (case a => decide +kernel); (case b => decide +kernel))
  | ((with_reducible refine' i_neS ?a ?b ?_); (case a => decide +kernel); (case b => decide +kernel))
  | ((with_reducible refine' i_lenL ?h ?_); (case h => walk_at "sq"))
  | ((with_reducible refine' i_lenT ?h ?_); (case h => walk_at "sq"))
  | ((with_reducible refine' i_listL ?h ?_); (case h => walk_at "sq"))
  | ((with_reducible refine' i_listT ?h ?_); (case h => walk_at "sq"))
  | ((with_reducible refine' i_tupL ?h ?_); (case h => walk_at "sq"))
  | ((with_reducible refine' i_tupT ?h ?_); (case h => walk_at "sq"))
  | ((with_reducible refine' i_tyL ?h ?_); (case h => walk_at "sq"))
  | ((with_reducible refine' i_truL ?h ?_); (case h => walk_at "sq"))
  | ((with_reducible refine' i_rng1In ?a ?b ?_); (case a => omega); (case b => omega))
  | ((with_reducible refine' i_rng2In ?a ?_); (case a => omega))
  | ((with_reducible refine' i_listIn ?a ?_); (case a => walk_at "sq"))
  | ((with_reducible refine' i_tupIn ?a ?_); (case a => walk_at "sq"))
  | ((with_reducible refine And.intro ?h ?_); (case h => walk_at "sz"))
  | ((with_reducible refine' i_iteT ?h ?_); (case h => first | rfl | assumption))
  | ((with_reducible refine' i_iteF ?h ?_); (case h => first | rfl | assumption)))
local macro_rules | `(tactic| walk_at "go") => `(tactic| repeat walk_at "i")
def row0 : PyData := .tuple (List.replicate 4 (.int 0))
def rqD (b : Nat) : Option PyData → PyData
  | none => .tuple [.str "read", .int b]
  | some c => .tuple [.str "write", .int b, c]
def answD (ts : List PyData) (b : Nat) : Option PyData → PyData
  | none => .tuple [.str "ok", ts.getD b .none]
  | some _ => .tuple [.str "ok", .none]
def afterD (ts : List PyData) (b : Nat) : Option PyData → List PyData
  | none => ts
  | some c => ts.set b c
def q_new_table (K : PySem.W.Frag) (H : Hp) (Q : VK) (E : XK) : Prop := ∀ v H', Same H H' → Dp K H' v (.tuple (List.replicate 8 row0)) → Q v H'
def sp_new_table (K : PySem.W.Frag) : Sp := fun vs H Q E => match vs with
  | [] => q_new_table K  H Q E
  | _ => False
abbrev N_new_table : List Str := ["_"]
def t_new_table (K : PySem.W.Frag) (E : XK) : TS :=
  tRet (tCB (rTupC K) (tCons (tLc (iRng1 (tCons (tC (.int 8)) (tNil))) (gName 0) (tYes) (tOp (rMulA K) (tTup (tCons (tC (.int 0)) (tNil))) (tC (.int 4))) [0]) (tNil)))
theorem pure_new_table {K : PySem.W.Frag} {H : Hp} {Q : VK} {E : XK} (h : q_new_table K H Q E) : t_new_table K E { nx := fun _ H' => Q .non H', rt := Q } (start N_new_table []) H := by
  unfold t_new_table
  walk_at "go"
  refine lc_rng (fun k acc H' => Same H H' ∧ DpAll K H' acc (List.replicate k row0)) ?_ ?_ ?_
  · intro D hD
    exact ⟨same_new (Same.refl H) hD, .nil⟩
  · rintro k D acc H' hk hl hD hD' ⟨s, ha⟩
    walk_at "go"
    intro p hp
    walk_at "go"
    refine i_repT (sqT upd_same) (by simp) (by decide) (by decide) (by decide) fun r hr => ?_
    have s1 : Same H' (upd H' p (.tup [.int 0])) := same_new (Same.refl _) hp
    have s2 := same_new s1 (p := r) (o := .tup [.int 0, .int 0, .int 0, .int 0]) (by
      cases e : H' r with
      | none => rfl
      | some u => rw [s1 r u e] at hr; cases hr)
    have d2 := DpAll.same s2 _ _ ha
    have hD2 := s2 D _ hD'
    refine lc_put hD2 hl (by simp at hk; omega) ⟨same_new (Same.trans s s2) hD, ?_⟩
    have nr : r ≠ D := fun z => by
      subst z
      rw [s1 r _ hD'] at hr
      cases hr
    have keep : Keep (upd (upd H' p (.tup [.int 0])) r (.tup [.int 0, .int 0, .int 0, .int 0])) (upd (upd (upd H' p (.tup [.int 0])) r (.tup [.int 0, .int 0, .int 0, .int 0])) D (.lst (acc ++ [.ref r]))) := (Keep.refl _).upd fun u e => by
      rw [hD2] at e
      cases e
      rfl
    have tr : ∀ n, tupAll (List.replicate n row0) = true := fun n => by
      induction n with
      | zero => rfl
      | succ n ih => exact ih
    rw [List.replicate_succ']
    refine DpAll.app (DpAll.keep keep _ _ d2 (tr k)) (.cons (Dp.tup (keep.sq (sqT upd_same)) ?_) .nil)
    exact DpAll.rep (.int 0) 4
  · rintro D acc H' hl hD hD' ⟨s, ha⟩
    have tr : ∀ n, tupAll (List.replicate n row0) = true := fun n => by
      induction n with
      | zero => rfl
      | succ n ih => exact ih
    walk_at "go"
    intro p hp
    have keep : Keep H' (upd H' p (.tup acc)) := (Keep.refl _).new hp
    exact h _ _ (same_new s (by
      cases e : H p with
      | none => rfl
      | some u => rw [s p u e] at hp; cases hp)) (.tup (sqT upd_same) (DpAll.keep keep _ _ ha (tr 8)))
def Tp (H : Hp) (t l : Addr) : Prop := ∃ (ns : List Int) (p : Nat) (r s : Int), H t = some (.lst [.ref l, .int p, .int r, .int s]) ∧ H l = some (.lst (ns.map V.int)) ∧ p ≤ ns.length ∧ 0 ≤ r
theorem Tp.ne {H : Hp} {t l : Addr} (h : Tp H t l) : t ≠ l := by
  obtain ⟨ns, p, r, s, ht, hl, _, _⟩ := h
  refine ne_of ht hl fun z => ?_
  cases ns with
  | nil => cases z
  | cons a b => injection z with z; injection z with z; cases z
def q_law_next (K : PySem.W.Frag) (a0 a1 : V) (H : Hp) (Q : VK) (E : XK) : Prop := ∃ (t l : Addr) (m : Int), a0 = .ref t ∧ a1 = .int m ∧ Tp H t l ∧ 0 < m ∧ m ≤ 1000 ∧ ∀ v H', 0 ≤ v → v < m → Tp H' t l → Stays [t] H H' → Q (.int v) H'
def sp_law_next (K : PySem.W.Frag) : Sp := fun vs H Q E => match vs with
  | [a0, a1] => q_law_next K a0 a1 H Q E
  | _ => False
abbrev N_law_next : List Str := ["_law_tape", "_law_many", "_law_rest", "_law_cell"]
def t_law_next (K : PySem.W.Frag) (E : XK) : TS :=
  tSeq (tAsg (tOp (rIx K) (tVar 0) (tC (.int 2))) (gName 2)) (tSeq (tIfS (tTest (tOp (rGtI) (tVar 2) (tC (.int 0)))) (tSeq (tAsg (tOp (rDivI) (tVar 2) (tVar 1)) (gSub (tVar 0) (tC (.int 2)) rSetL)) (tRet (tOp (rModI) (tCB (rIntC) (tCons (tVar 2) (tNil))) (tVar 1)))) (tNext)) (tSeq (tAsg (tC (.int 0)) (gName 3)) (tCut (tIfS (tTest (tOp (rLtI) (tOp (rIx K) (tVar 0) (tC (.int 1))) (tCB (rLenA K) (tCons (tOp (rIx K) (tVar 0) (tC (.int 0))) (tNil))))) (tSeq (tAsg (tCB (rAbsI) (tCons (tOp (rIx K) (tOp (rIx K) (tVar 0) (tC (.int 0))) (tOp (rIx K) (tVar 0) (tC (.int 1)))) (tNil))) (gName 3)) (tAugS (tVar 0) (tC (.int 1)) (tC (.int 1)) (rGetL K) (ipI fun i j => i + j) rSetL)) (tNext)) (tSeq (tIfS (tTest (tOp (rGeI) (tVar 3) (tOp (rPowI) (tC (.int 10)) (tC (.int 18))))) (tSeq (tAsg (tOp (rDivI) (tVar 3) (tVar 1)) (gSub (tVar 0) (tC (.int 2)) rSetL)) (tRet (tOp (rModI) (tCB (rIntC) (tCons (tVar 3) (tNil))) (tVar 1)))) (tNext)) (tSeq (tAsg (tOp (rModI) (tCB (rIntC) (tCons (tOp (rAddA K) (tOp (rAddA K) (tOp (rMulA K) (tOp (rIx K) (tVar 0) (tC (.int 3))) (tC (.int 48271))) (tOp (rMulA K) (tVar 3) (tC (.int 69621)))) (tC (.int 11))) (tNil))) (tC (.int 2147483647))) (gSub (tVar 0) (tC (.int 3)) rSetL)) (tRet (tOp (rModI) (tCB (rIntC) (tCons (tOp (rDivI) (tOp (rModI) (tOp (rMulA K) (tOp (rIx K) (tVar 0) (tC (.int 3))) (tC (.int 16807))) (tC (.int 2147483647))) (tC (.int 7))) (tNil))) (tVar 1))))))))
theorem pure_law_next {K : PySem.W.Frag} {a0 a1 : V} {H : Hp} {Q : VK} {E : XK} (h : q_law_next K a0 a1 H Q E) : t_law_next K E { nx := fun _ H' => Q .non H', rt := Q } (start N_law_next [a0, a1]) H := by
  obtain ⟨t, l, m, rfl, rfl, hT, hm, hm2, k⟩ := h
  have ntl := hT.ne
  obtain ⟨ns, p, r, s, ht, hl, hp, hr⟩ := hT
  have nlt : l ≠ t := ntl.symm
  unfold t_law_next
  walk_at "go"
  have fin : ∀ (H1 : Hp) (p : Nat) (r s v : Int), H1 l = some (.lst (ns.map V.int)) → Stays [t] H H1 → p ≤ ns.length → 0 ≤ r → Q (.int (v % m)) (upd H1 t (.lst [.ref l, .int p, .int r, .int s])) := fun H1 p r s v hl st hp hr =>
    k _ _ (Int.emod_nonneg _ (by omega)) (Int.emod_lt_of_pos _ hm) ⟨ns, p, r, s, upd_same, by walk_at "lk", hp, hr⟩ (st.put (by simp))
  refine i_ite2 (fun c => ?_) (fun c => ?_)
  · have c := of_decide_eq_true c
    walk_at "go"
    exact fin H p (r / m) s r hl (Stays.refl H) hp (Int.ediv_nonneg hr (by omega))
  walk_at "go"
  refine i_cut (fun σ' H1 => ∃ (p : Nat) (cl : Int), σ' = [some (.ref t), some (.int m), some (.int r), some (.int cl)] ∧ H1 t = some (.lst [.ref l, .int p, .int r, .int s]) ∧ H1 l = some (.lst (ns.map V.int)) ∧ Stays [t] H H1 ∧ p ≤ ns.length ∧ 0 ≤ cl) ?_ ?_
  · walk_at "go"
    refine i_ite2 (fun c => ?_) (fun c => ?_)
    · have c : (p : Int) < (ns.map V.int).length := of_decide_eq_true c
      rw [List.length_map] at c
      have c' : p < ns.length := by omega
      walk_at "go"
      refine i_ixL (v := .int (ns[p])) (sqL hl) (by rw [atI_nat]; simp [c']) ?_
      walk_at "go"
      refine ⟨p + 1, _, rfl, upd_same, by walk_at "lk", (Stays.refl H).put (by simp), by omega, ?_⟩
      split <;> omega
    · refine i_next ⟨p, 0, rfl, ht, hl, Stays.refl H, hp, Int.le_refl 0⟩
  · rintro σ' H1 ⟨p, cl, rfl, ht, hl, st, hp, hcl⟩
    walk_at "go"
    refine i_ite2 (fun c => ?_) (fun c => ?_)
    · walk_at "go"
      exact fin H1 p (cl / m) s cl hl st hp (Int.ediv_nonneg hcl (by omega))
    walk_at "go"
    exact fin H1 p r _ _ hl st hp hr
theorem Tp.upd {H : Hp} {t l a : Addr} {o : HO} (h : Tp H t l) (ha : H a = none) : Tp (L2.upd H a o) t l := by
  obtain ⟨ns, p, r, s, ht, hl, h1, h2⟩ := h
  exact ⟨ns, p, r, s, upd_at (ne_fresh ha ht) ht, upd_at (ne_fresh ha hl) hl, h1, h2⟩
theorem Tp.put {H : Hp} {t l a : Addr} {o : HO} (h : Tp H t l) (h1 : t ≠ a) (h2 : l ≠ a) : Tp (L2.upd H a o) t l := by
  obtain ⟨ns, p, r, s, ht, hl, h3, h4⟩ := h
  exact ⟨ns, p, r, s, upd_at h1 ht, upd_at h2 hl, h3, h4⟩
theorem Tp.same {H H' : Hp} {t l : Addr} (h : Tp H t l) (s : Same H H') : Tp H' t l := by
  obtain ⟨ns, p, r, x, ht, hl, h3, h4⟩ := h
  exact ⟨ns, p, r, x, s _ _ ht, s _ _ hl, h3, h4⟩
theorem Tp.at_t {H : Hp} {t l : Addr} (h : Tp H t l) : ∃ xs, H t = some (.lst xs) := by
  obtain ⟨ns, p, r, s, ht, hl, h3, h4⟩ := h
  exact ⟨_, ht⟩
theorem Tp.at_l {H : Hp} {t l : Addr} (h : Tp H t l) : ∃ xs, H l = some (.lst xs) := by
  obtain ⟨ns, p, r, s, ht, hl, h3, h4⟩ := h
  exact ⟨_, hl⟩
theorem Tp.keep {H H' : Hp} {t l : Addr} (h : Tp H t l) (s : Stays [t] H H') : Keep H H' := Keep.stays s fun a m u e => by
  obtain ⟨xs, ht⟩ := h.at_t
  have : a = t := by simpa using m
  subst this
  rw [ht] at e
  cases e
  rfl
def okC : Option PyData → Prop
  | none => True
  | some c => ∃ ns : List Int, ns.length = 4 ∧ c = .tuple (ns.map .int)
def rqOk (r : Nat × Option PyData) : Prop := r.1 < 8 ∧ okC r.2
def rqDs (rs : List (Nat × Option PyData)) : List PyData := rs.map fun r => rqD r.1 r.2
theorem tup_ints (ns : List Int) : tupAll (ns.map PyData.int) = true := by
  induction ns with
  | nil => rfl
  | cons n ns ih => exact ih
theorem okC_tup {c : PyData} (h : okC (some c)) : tupOnly c = true := by
  obtain ⟨ns, _, rfl⟩ := h
  exact tup_ints ns
theorem rq_tup {b : Nat} {c : Option PyData} (h : okC c) : tupOnly (rqD b c) = true := by
  cases c with
  | none => rfl
  | some c =>
    show (true && (true && (tupOnly c && true))) = true
    rw [okC_tup h]
    rfl
theorem rqs_tup : ∀ {rs : List (Nat × Option PyData)}, (∀ r ∈ rs, rqOk r) → tupAll (rqDs rs) = true
  | [], _ => rfl
  | r :: rs, h => by
    show (tupOnly (rqD r.1 r.2) && tupAll (rqDs rs)) = true
    rw [rq_tup (h r (by simp)).2, rqs_tup fun x m => h x (by simp [m])]
    rfl
def q_law_requests (K : PySem.W.Frag) (a0 a1 : V) (H : Hp) (Q : VK) (E : XK) : Prop := ∃ (t l : Addr) (m : Int), a0 = .ref t ∧ a1 = .int m ∧ Tp H t l ∧ 0 ≤ m ∧ m ≤ 20 ∧ ∀ a xs rs H', Tp H' t l → Stays [t] H H' → H a = none → H' a = some (.lst xs) → DpAll K H' xs (rqDs rs) → (∀ r ∈ rs, rqOk r) → rs.length ≤ 20 → Q (.ref a) H'
def sp_law_requests (K : PySem.W.Frag) : Sp := fun vs H Q E => match vs with
  | [a0, a1] => q_law_requests K a0 a1 H Q E
  | _ => False
abbrev N_law_requests : List Str := ["_law_tape", "_law_many", "_law_requests_here", "_law_turn", "_law_block", "_law_k"]
def t_law_requests (K : PySem.W.Frag) (E : XK) : TS :=
  tSeq (tAsg (tLst (tNil)) (gName 2)) (tSeq (tFor (iRng1 (tCons (tVar 1) (tNil))) (gName 3) (tSeq (tAsg (tCall (sp_law_next K) [] E0 (tCons (tVar 0) (tCons (tOp (rIx K) (tTup (tCons (tC (.int 2)) (tCons (tC (.int 8)) (tNil)))) (tCall (sp_law_next K) [] E0 (tCons (tVar 0) (tCons (tC (.int 2)) (tNil))))) (tNil)))) (gName 4)) (tIfS (tTest (tOp (rEqD K) (tCall (sp_law_next K) [] E0 (tCons (tVar 0) (tCons (tC (.int 2)) (tNil)))) (tC (.int 0)))) (tDrop (tBM K "list" rAppend (tVar 2) (tCons (tTup (tCons (tC (.str "read")) (tCons (tVar 4) (tNil)))) (tNil)))) (tDrop (tBM K "list" rAppend (tVar 2) (tCons (tTup (tCons (tC (.str "write")) (tCons (tVar 4) (tCons (tCB (rTupC K) (tCons (tLc (iRng1 (tCons (tC (.int 4)) (tNil))) (gName 5) (tYes) (tOp (rAddA K) (tC (.int 1)) (tCall (sp_law_next K) [] E0 (tCons (tVar 0) (tCons (tC (.int 9)) (tNil))))) [5]) (tNil))) (tNil))))) (tNil))))))) (tRet (tVar 2)))
theorem pure_law_requests {K : PySem.W.Frag} {a0 a1 : V} {H : Hp} {Q : VK} {E : XK} (h : q_law_requests K a0 a1 H Q E) : t_law_requests K E { nx := fun _ H' => Q .non H', rt := Q } (start N_law_requests [a0, a1]) H := by
  obtain ⟨t, l, m, rfl, rfl, hT, hm, hm2, q⟩ := h
  unfold t_law_requests
  walk_at "go"
  intro a ha
  walk_at "go"
  obtain ⟨ts0, ht0⟩ := hT.at_t
  obtain ⟨ls0, hl0⟩ := hT.at_l
  have nta : t ≠ a := ne_fresh ha ht0
  have nla : l ≠ a := ne_fresh ha hl0
  refine f_rng (fun k σ' H' => ∃ xs rs x3 x4, σ' = [some (.ref t), some (.int m), some (.ref a), x3, x4, none] ∧ Tp H' t l ∧ Stays [t] H H' ∧ H' a = some (.lst xs) ∧ DpAll K H' xs (rqDs rs) ∧ (∀ r ∈ rs, rqOk r) ∧ rs.length = k) ?_ ?_ ?_
  · exact ⟨[], [], none, none, rfl, hT.upd ha, (Stays.refl H).new ha, upd_same, .nil, (by simp), rfl⟩
  · rintro k σ' H' hk ⟨xs, rs, x3, x4, rfl, hT, st, hx, hd, ok, hlen⟩
    have hxl := DpAll.length hd
    rw [rqDs, List.length_map] at hxl
    walk_at "go"
    intro p hp
    have npa : a ≠ p := ne_fresh hp hx
    walk_at "go"
    refine ⟨t, l, 2, rfl, rfl, hT.upd hp, by omega, by omega, fun v H1 hv0 hv1 hT1 st1 => ?_⟩
    have hp1 : H1 p = some (.tup [.int 2, .int 8]) := st1.get upd_same (by obtain ⟨_, e⟩ := hT.at_t; simp; exact fun z => ne_fresh hp e z.symm)
    have hx1 : H1 a = some (.lst xs) := st1.get (upd_at npa hx) (by simp; exact nta.symm)
    obtain ⟨n, hn, hn0, hn1⟩ : ∃ n : Int, ([V.int 2, V.int 8] : List V)[v.toNat]? = some (.int n) ∧ 0 < n ∧ n ≤ 8 := by
      have : v = 0 ∨ v = 1 := by omega
      rcases this with rfl | rfl
      · exact ⟨2, rfl, by decide, by decide⟩
      · exact ⟨8, rfl, by decide, by decide⟩
    refine i_ixTn (sqT hp1) hv0 hn ?_
    walk_at "go"
    refine ⟨t, l, n, rfl, rfl, hT1, hn0, by omega, fun b H2 hb0 hb1 hT2 st2 => ?_⟩
    have hx2 : H2 a = some (.lst xs) := st2.get hx1 (by simp; exact nta.symm)
    walk_at "go"
    refine ⟨t, l, 2, rfl, rfl, hT2, by omega, by omega, fun u H3 hu0 hu1 hT3 st3 => ?_⟩
    have hx3 : H3 a = some (.lst xs) := st3.get hx2 (by simp; exact nta.symm)
    have k3 : Keep H' H3 := ((Keep.refl H').new hp).trans (((hT.upd hp).keep st1).trans ((hT1.keep st2).trans (hT2.keep st3)))
    have st' : Stays [t] H H3 := ((st.trans (Stays.same (same_new (Same.refl H') hp))).trans st1).trans (st2.trans st3)
    have hd3 := DpAll.keep k3 _ _ hd (rqs_tup ok)
    walk_at "go"
    refine i_ite2 (fun c => ?_) (fun c => ?_)
    · walk_at "go"
      intro p2 hp2
      have n2 : a ≠ p2 := ne_fresh hp2 hx3
      walk_at "go"
      refine i_app (upd_at n2 hx3) (by rw [sizeLine_eq]; omega) ?_
      refine ⟨xs ++ [.ref p2], rs ++ [(b.toNat, none)], _, _, rfl, (hT3.upd hp2).put nta nla, (st'.trans (Stays.same (same_new (Same.refl H3) hp2))).new ha, upd_same, ?_, ?_, ?_⟩
      · have kk : Keep H3 (upd (upd H3 p2 (.tup [.str "read", .int b])) a (.lst (xs ++ [.ref p2]))) := ((Keep.refl H3).new hp2).upd fun u e => by rw [hx3] at e; cases e; rfl
        rw [rqDs, List.map_append]
        refine DpAll.app (DpAll.keep kk _ _ hd3 (rqs_tup ok)) (.cons (Dp.tup (xs := [.str "read", .int b]) (sqT (upd_at n2.symm upd_same)) (.cons (.str _) (.cons ?_ .nil))) .nil)
        rw [show ((b.toNat : Nat) : Int) = b by omega]
        exact .int b
      · intro r hr
        rcases List.mem_append.mp hr with hr | hr
        · exact ok r hr
        · have : r = (b.toNat, none) := by simpa using hr
          subst this
          exact ⟨by show b.toNat < 8; omega, trivial⟩
      · simp [hlen]
    · walk_at "go"
      refine lc_rng (fun k acc H4 => Tp H4 t l ∧ Stays [t] H3 H4 ∧ ∃ ns : List Int, acc = ns.map V.int) ?_ ?_ ?_
      · intro D hD
        exact ⟨hT3.upd hD, (Stays.refl H3).new hD, [], rfl⟩
      · rintro k4 D acc H4 hk4 hl4 hD hD4 ⟨hT4, st4, ns, rfl⟩
        obtain ⟨_, e1⟩ := hT3.at_t
        obtain ⟨_, e2⟩ := hT3.at_l
        walk_at "go"
        refine ⟨t, l, 9, rfl, rfl, hT4, by omega, by omega, fun w H5 hw0 hw1 hT5 st5 => ?_⟩
        walk_at "go"
        refine lc_put (st5.get hD4 (by simp; exact (ne_fresh hD e1).symm)) hl4 (by simp at hk4; omega) ⟨hT5.put (ne_fresh hD e1) (ne_fresh hD e2), (st4.trans st5).new hD, ns ++ [1 + w], by simp⟩
      · rintro D acc H4 hl4 hD hD4 ⟨hT4, st4, ns, rfl⟩
        have hx4 : H4 a = some (.lst xs) := st4.get hx3 (by simp; exact nta.symm)
        walk_at "go"
        intro p4 hp4
        have n4 : a ≠ p4 := ne_fresh hp4 hx4
        walk_at "go"
        intro p5 hp5
        have hx5 := upd_at (o := .tup (ns.map V.int)) n4 hx4
        have n5 : a ≠ p5 := ne_fresh hp5 hx5
        have n54 : p4 ≠ p5 := ne_fresh hp5 upd_same
        walk_at "go"
        refine i_app (upd_at n5 hx5) (by rw [sizeLine_eq]; omega) ?_
        refine ⟨xs ++ [.ref p5], rs ++ [(b.toNat, some (.tuple (ns.map .int)))], _, _, rfl, ((hT4.upd hp4).upd hp5).put nta nla, (((st'.trans st4).trans (Stays.same (same_new (Same.refl H4) hp4))).trans (Stays.same (same_new (Same.refl _) hp5))).new ha, upd_same, ?_, ?_, ?_⟩
        · have kk : Keep H3 (upd (upd (upd H4 p4 (.tup (ns.map V.int))) p5 (.tup [.str "write", .int b, .ref p4])) a (.lst (xs ++ [.ref p5]))) := (((hT3.keep st4).trans ((Keep.refl H4).new hp4)).trans ((Keep.refl _).new hp5)).trans ((Keep.refl _).upd fun u e => by rw [upd_at n5 hx5] at e; cases e; rfl)
          rw [rqDs, List.map_append]
          refine DpAll.app (DpAll.keep kk _ _ hd3 (rqs_tup ok)) (.cons (Dp.tup (xs := [.str "write", .int b, .ref p4]) (sqT (upd_at n5.symm upd_same)) (.cons (.str _) (.cons ?_ (.cons (Dp.tup (sqT (upd_at n4.symm (upd_at n54 upd_same))) (DpAll.ints ns)) .nil)))) .nil)
          rw [show ((b.toNat : Nat) : Int) = b by omega]
          exact .int b
        · intro r hr
          rcases List.mem_append.mp hr with hr | hr
          · exact ok r hr
          · have : r = (b.toNat, some (.tuple (ns.map .int))) := by simpa using hr
            subst this
            exact ⟨by show b.toNat < 8; omega, ns, by simpa using hl4, rfl⟩
        · simp [hlen]
  · rintro σ' H' ⟨xs, rs, x3, x4, rfl, hT, st, hx, hd, ok, hlen⟩
    walk_at "go"
    exact q a xs rs H' hT st ha hx hd ok (by omega)
def q_answer_of (K : PySem.W.Frag) (a0 a1 : V) (H : Hp) (Q : VK) (E : XK) : Prop := ∃ ts b c, Dp K H a0 (.tuple ts) ∧ Dp K H a1 (rqD b c) ∧ b < ts.length ∧ ∀ v H', Same H H' → Dp K H' v (answD ts b c) → Q v H'
def sp_answer_of (K : PySem.W.Frag) : Sp := fun vs H Q E => match vs with
  | [a0, a1] => q_answer_of K a0 a1 H Q E
  | _ => False
abbrev N_answer_of : List Str := ["table", "request"]
def t_answer_of (K : PySem.W.Frag) (E : XK) : TS :=
  tSeq (tIfS (tTest (tOp (rEqD K) (tOp (rIx K) (tVar 1) (tC (.int 0))) (tC (.str "read")))) (tRet (tTup (tCons (tC (.str "ok")) (tCons (tOp (rIx K) (tVar 0) (tOp (rIx K) (tVar 1) (tC (.int 1)))) (tNil))))) (tNext)) (tRet (tTup (tCons (tC (.str "ok")) (tCons (tC .non) (tNil)))))
theorem pure_answer_of {K : PySem.W.Frag} {a0 a1 : V} {H : Hp} {Q : VK} {E : XK} (h : q_answer_of K a0 a1 H Q E) : t_answer_of K E { nx := fun _ H' => Q .non H', rt := Q } (start N_answer_of [a0, a1]) H := by
  obtain ⟨ts, b, c, ht, hr, hb, q⟩ := h
  obtain ⟨t, xs, rfl, hts, hta⟩ := Dp.tupOf ht
  unfold t_answer_of
  cases c with
  | none =>
    obtain ⟨r, ys, rfl, hrs, hra⟩ := Dp.tupOf hr
    obtain _ | ⟨h0, _ | ⟨h1, _ | _⟩⟩ := hra
    cases Dp.strOf h0
    cases Dp.intOf h1
    obtain ⟨v, hv, hvd⟩ := DpAll.getD hta (List.getElem?_eq_getElem hb)
    walk_at "go"
    refine i_ixT hts (by rw [atI_nat]; exact hv) ?_
    walk_at "go"
    intro p hp
    refine q _ _ (same_new (Same.refl H) hp) (.tup (sqT upd_same) (.cons (.str _) (.cons ?_ .nil)))
    rw [List.getD_eq_getElem?_getD, List.getElem?_eq_getElem hb]
    exact Dp.same (same_new (Same.refl H) hp) _ _ hvd
  | some c =>
    obtain ⟨r, ys, rfl, hrs, hra⟩ := Dp.tupOf hr
    obtain _ | ⟨h0, _ | ⟨h1, _ | ⟨h2, _ | _⟩⟩⟩ := hra
    cases Dp.strOf h0
    cases Dp.intOf h1
    walk_at "go"
    intro p hp
    exact q _ _ (same_new (Same.refl H) hp) (.tup (sqT upd_same) (.cons (.str _) (.cons .non .nil)))
def isI : PyData → Bool
  | .int _ => true
  | _ => false
theorem isI_of {d : PyData} (h : isI d = true) : ∃ i, d = .int i := by cases d <;> first | exact ⟨_, rfl⟩ | cases h
theorem inst_isI (d : PyData) : (if instB d "int" = true then !instB d "bool" else false) = isI d := by cases d <;> rfl
def isBlk : PyData → Bool
  | .int i => decide (0 ≤ i) && decide (i < 8)
  | _ => false
theorem isBlk_of {d : PyData} (h : isBlk d = true) : ∃ i, d = .int i ∧ 0 ≤ i ∧ i < 8 := by
  cases d with
  | int i =>
    have h' : (decide (0 ≤ i) && decide (i < 8)) = true := h
    rw [Bool.and_eq_true] at h'
    exact ⟨i, rfl, of_decide_eq_true h'.1, of_decide_eq_true h'.2⟩
  | _ => cases h
def are4 : PyData → Bool
  | .tuple ds => ds.length == 4 && ds.all isI
  | _ => false
def isReq : PyData → Bool
  | .tuple (a :: b :: r) => isBlk b && (if PyData.eqv a (.str "read") = true then r.length == 0 else PyData.eqv a (.str "write") && (r.length == 1 && are4 (r.getD 0 .none)))
  | _ => false
theorem i_bl2 {b : Bool} {H : Hp} {R : Bool → Prop} (q : R b) : ∃ c, V.bl b = .bl c ∧ R c := ⟨b, rfl, q⟩
theorem isReq_tup {d : PyData} (h : instB d "tuple" = true) : ∃ ds, d = .tuple ds := by cases d <;> first | exact ⟨_, rfl⟩ | cases h
theorem isReq_not {d : PyData} (h : instB d "tuple" = false) : isReq d = false := by cases d <;> first | rfl | cases h
def q_is_integer (K : PySem.W.Frag) (a0 : V) (H : Hp) (Q : VK) (E : XK) : Prop := ∃ d, Dp K H a0 d ∧ Q (.bl (isI d)) H
def sp_is_integer (K : PySem.W.Frag) : Sp := fun vs H Q E => match vs with
  | [a0] => q_is_integer K a0 H Q E
  | _ => False
abbrev N_is_integer : List Str := ["value"]
def t_is_integer (K : PySem.W.Frag) (E : XK) : TS :=
  tRet (tAndV (tCB (rIsi K) (tCons (tVar 0) (tCons (tC (.ty "int")) (tNil)))) (tNotV (tCB (rIsi K) (tCons (tVar 0) (tCons (tC (.ty "bool")) (tNil))))))
theorem pure_is_integer {K : PySem.W.Frag} {a0 : V} {H : Hp} {Q : VK} {E : XK} (h : q_is_integer K a0 H Q E) : t_is_integer K E { nx := fun _ H' => Q .non H', rt := Q } (start N_is_integer [a0]) H := by
  obtain ⟨d, hd, q⟩ := h
  unfold t_is_integer
  rw [← inst_isI] at q
  walk_at "go"
  refine i_isiInt hd ?_
  walk_at "go"
  refine i_ite2 (fun c => ?_) (fun c => ?_)
  · walk_at "go"
    refine i_isiBool hd ?_
    walk_at "go"
    rw [c] at q
    exact q
  · rw [c] at q
    exact q
def q_is_block (K : PySem.W.Frag) (a0 : V) (H : Hp) (Q : VK) (E : XK) : Prop := ∃ d, Dp K H a0 d ∧ Q (.bl (isBlk d)) H
def sp_is_block (K : PySem.W.Frag) : Sp := fun vs H Q E => match vs with
  | [a0] => q_is_block K a0 H Q E
  | _ => False
abbrev N_is_block : List Str := ["value"]
def t_is_block (K : PySem.W.Frag) (E : XK) : TS :=
  tRet (tAndV (tCall (sp_is_integer K) [] E0 (tCons (tVar 0) (tNil))) (tChain (rLeI) (rLtI) (tC (.int 0)) (tVar 0) (tC (.int 8))))
theorem pure_is_block {K : PySem.W.Frag} {a0 : V} {H : Hp} {Q : VK} {E : XK} (h : q_is_block K a0 H Q E) : t_is_block K E { nx := fun _ H' => Q .non H', rt := Q } (start N_is_block [a0]) H := by
  obtain ⟨d, hd, q⟩ := h
  unfold t_is_block
  walk_at "go"
  refine ⟨d, hd, ?_⟩
  walk_at "go"
  refine i_ite2 (fun c => ?_) (fun c => ?_)
  · obtain ⟨i, rfl⟩ := isI_of c
    have e := Dp.intOf hd
    subst e
    have q : Q (.bl (decide (0 ≤ i) && decide (i < 8))) H := q
    walk_at "go"
    refine i_ite2 (fun c => ?_) (fun c => ?_)
    · rw [c] at q
      walk_at "go"
      exact q
    · rw [c] at q
      exact q
  · have : isBlk d = false := by cases d <;> first | rfl | cases c
    rw [this] at q
    exact q
def q_are_values (K : PySem.W.Frag) (a0 : V) (H : Hp) (Q : VK) (E : XK) : Prop := ∃ d, Dp K H a0 d ∧ ∀ H', Same H H' → Q (.bl (are4 d)) H'
def sp_are_values (K : PySem.W.Frag) : Sp := fun vs H Q E => match vs with
  | [a0] => q_are_values K a0 H Q E
  | _ => False
abbrev N_are_values : List Str := ["value", "one"]
def t_are_values (K : PySem.W.Frag) (E : XK) : TS :=
  tRet (tAndV (tCB (rIsi K) (tCons (tVar 0) (tCons (tC (.ty "tuple")) (tNil)))) (tAndV (tOp (rEqD K) (tCB (rLenA K) (tCons (tVar 0) (tNil))) (tC (.int 4))) (tCB (rAll K) (tCons (tLc (iTup K (tVar 0)) (gName 1) (tYes) (tCall (sp_is_integer K) [] E0 (tCons (tVar 1) (tNil))) [1]) (tNil)))))
theorem pure_are_values {K : PySem.W.Frag} {a0 : V} {H : Hp} {Q : VK} {E : XK} (h : q_are_values K a0 H Q E) : t_are_values K E { nx := fun _ H' => Q .non H', rt := Q } (start N_are_values [a0]) H := by
  obtain ⟨d, hd, q⟩ := h
  unfold t_are_values
  walk_at "go"
  refine i_isiTup hd ?_
  walk_at "go"
  refine i_ite2 (fun c => ?_) (fun c => ?_)
  · have : ∃ ds, d = .tuple ds := by cases d <;> first | exact ⟨_, rfl⟩ | cases c
    obtain ⟨ds, rfl⟩ := this
    obtain ⟨a, xs, rfl, hs, ha⟩ := Dp.tupOf hd
    have hl := DpAll.length ha
    walk_at "go"
    refine i_ite2 (fun c => ?_) (fun c => ?_)
    · have c4 : ds.length = 4 := by
        have := eq_of_beq c
        omega
      walk_at "go"
      refine lc_tup xs (fun k acc H' => Same H H' ∧ acc = ((ds.take k).map fun d => V.bl (isI d))) ?_ ?_ ?_ ?_
      · intro k D acc H' hD hD' hi
        exact (Keep.same hi.1).sq hs
      · intro D hD
        exact ⟨same_new (Same.refl H) hD, rfl⟩
      · rintro k x D acc H' hx hk hD hD' ⟨s, rfl⟩
        obtain ⟨e, he, hxe⟩ := DpAll.get ha hx
        walk_at "go"
        refine ⟨e, Dp.same s e x hxe, ?_⟩
        have hk4 : k < 4 := by
          have := (List.getElem?_eq_some_iff.mp he).1
          omega
        refine lc_put hD' hk (by omega) ⟨same_new s hD, ?_⟩
        rw [List.take_succ, he]
        simp
      · rintro D acc H' hl2 hD hD' ⟨s, rfl⟩
        walk_at "go"
        refine i_all (bs := ds.map isI) (sqL ?_) ?_
        · rw [hD', hl, List.take_length, List.map_map]
          rfl
        · have e : are4 (.tuple ds) = (ds.map isI).all id := by
            show (ds.length == 4 && ds.all isI) = _
            rw [c4, List.all_map]
            simp
          rw [← e]
          exact q _ s
    · have e : are4 (.tuple ds) = false := by
        show (ds.length == 4 && ds.all isI) = false
        have : (ds.length == 4) = false := by
          cases z : ds.length == 4 with
          | false => rfl
          | true =>
            have := eq_of_beq z
            rw [hl, this] at c
            cases c
        rw [this]
        rfl
      rw [e] at q
      exact q _ (Same.refl H)
  · have e : are4 d = false := by cases d <;> first | rfl | cases c
    rw [e] at q
    exact q _ (Same.refl H)
def q_is_request (K : PySem.W.Frag) (a0 : V) (H : Hp) (Q : VK) (E : XK) : Prop := ∃ d, Dp K H a0 d ∧ (∀ a r, d = .tuple (a :: r) → SeqAt.shaped a = true) ∧ ∀ H', Same H H' → Q (.bl (isReq d)) H'
def sp_is_request (K : PySem.W.Frag) : Sp := fun vs H Q E => match vs with
  | [a0] => q_is_request K a0 H Q E
  | _ => False
abbrev N_is_request : List Str := ["value"]
def t_is_request (K : PySem.W.Frag) (E : XK) : TS :=
  tSeq (tIfS (tOr (tNot (tTru K (tCB (rIsi K) (tCons (tVar 0) (tCons (tC (.ty "tuple")) (tNil)))))) (tOr (tTest (tOp (rLtI) (tCB (rLenA K) (tCons (tVar 0) (tNil))) (tC (.int 2)))) (tNot (tTru K (tCall (sp_is_block K) [] E0 (tCons (tOp (rIx K) (tVar 0) (tC (.int 1))) (tNil))))))) (tRet (tC (.bl false))) (tNext)) (tSeq (tIfS (tTest (tOp (rEqD K) (tOp (rIx K) (tVar 0) (tC (.int 0))) (tC (.str "read")))) (tRet (tOp (rEqD K) (tCB (rLenA K) (tCons (tVar 0) (tNil))) (tC (.int 2)))) (tNext)) (tRet (tAndV (tOp (rEqD K) (tOp (rIx K) (tVar 0) (tC (.int 0))) (tC (.str "write"))) (tAndV (tOp (rEqD K) (tCB (rLenA K) (tCons (tVar 0) (tNil))) (tC (.int 3))) (tCall (sp_are_values K) [] E0 (tCons (tOp (rIx K) (tVar 0) (tC (.int 2))) (tNil)))))))
theorem pure_is_request {K : PySem.W.Frag} {a0 : V} {H : Hp} {Q : VK} {E : XK} (h : q_is_request K a0 H Q E) : t_is_request K E { nx := fun _ H' => Q .non H', rt := Q } (start N_is_request [a0]) H := by
  obtain ⟨d, hd, sh, q⟩ := h
  unfold t_is_request
  walk_at "go"
  refine i_isiTup hd ?_
  walk_at "go"
  refine i_ite2 (fun c => ?_) (fun c => ?_)
  · have e := isReq_not (d := d) (by simpa using c)
    rw [e] at q
    walk_at "go"
    exact q H (Same.refl H)
  obtain ⟨ds, rfl⟩ := isReq_tup (d := d) (by simpa using c)
  obtain ⟨a, xs, rfl, hs, ha⟩ := Dp.tupOf hd
  have hl := DpAll.length ha
  walk_at "go"
  refine i_ite2 (fun c => ?_) (fun c => ?_)
  · have c := of_decide_eq_true c
    have e : isReq (.tuple ds) = false := by
      match ds, hl with
      | [], _ => rfl
      | [_], _ => rfl
      | _ :: _ :: _, hl => simp at hl; omega
    rw [e] at q
    walk_at "go"
    exact q H (Same.refl H)
  have c := of_decide_eq_false c
  match ds, xs, hl, ha, hs, c with
  | [], _, hl, _, _, c => simp at hl; subst hl; simp at c
  | [_], _, hl, _, _, c => simp at hl; rw [hl] at c; simp at c
  | d0 :: d1 :: dr, x0 :: x1 :: xr, hl, ha, hs, c =>
    obtain _ | ⟨h0, _ | ⟨h1, hr⟩⟩ := ha
    have hlr := DpAll.length hr
    have s0 := sh d0 _ rfl
    walk_at "go"
    refine ⟨d1, h1, ?_⟩
    walk_at "go"
    refine i_ite2 (fun c => ?_) (fun c => ?_)
    · have e : isReq (.tuple (d0 :: d1 :: dr)) = false := by
        have : isBlk d1 = false := by simpa using c
        show (isBlk d1 && _) = false
        rw [this]
        rfl
      rw [e] at q
      walk_at "go"
      exact q H (Same.refl H)
    have cb : isBlk d1 = true := by simpa using c
    have e : isReq (.tuple (d0 :: d1 :: dr)) = (if PyData.eqv d0 (.str "read") = true then dr.length == 0 else PyData.eqv d0 (.str "write") && (dr.length == 1 && are4 (dr.getD 0 .none))) := by
      show (isBlk d1 && _) = _
      rw [cb]
      rfl
    rw [e] at q
    walk_at "go"
    refine i_eqD h0 (.str "read") s0 (by decide +kernel) ?_
    walk_at "go"
    refine i_ite2 (fun c => ?_) (fun c => ?_)
    · rw [if_pos c] at q
      walk_at "go"
      have e2 : (((x0 :: x1 :: xr).length : Int) == 2) = (dr.length == 0) := by
        rw [← hlr, List.length_cons, List.length_cons]
        cases xr <;> simp
        omega
      rw [e2]
      exact q H (Same.refl H)
    rw [if_neg (by simp [c])] at q
    walk_at "go"
    refine i_eqD h0 (.str "write") s0 (by decide +kernel) ?_
    walk_at "go"
    refine i_ite2 (fun c => ?_) (fun c => ?_)
    · rw [c] at q
      walk_at "go"
      have e2 : (((x0 :: x1 :: xr).length : Int) == 3) = (dr.length == 1) := by
        rw [← hlr, List.length_cons, List.length_cons]
        rw [Bool.eq_iff_iff]
        simp
        omega
      refine i_ite2 (fun c => ?_) (fun c => ?_)
      · rw [e2] at c
        rw [c] at q
        match dr, xr, hr, c with
        | [d2], [x2], hr, _ =>
          obtain _ | ⟨h2, _⟩ := hr
          walk_at "go"
          exact ⟨d2, h2, q⟩
        | [], _, _, c => cases c
        | _ :: _ :: _, _, _, c => simp at c
      · rw [e2] at c
        rw [c] at q
        exact q H (Same.refl H)
    · rw [c] at q
      exact q H (Same.refl H)
def q_after_request (K : PySem.W.Frag) (a0 a1 : V) (H : Hp) (Q : VK) (E : XK) : Prop := ∃ ts b c, Dp K H a0 (.tuple ts) ∧ Dp K H a1 (rqD b c) ∧ b < ts.length ∧ ts.length ≤ 100 ∧ ∀ v H', Same H H' → Dp K H' v (.tuple (afterD ts b c)) → Q v H'
def sp_after_request (K : PySem.W.Frag) : Sp := fun vs H Q E => match vs with
  | [a0, a1] => q_after_request K a0 a1 H Q E
  | _ => False
abbrev N_after_request : List Str := ["table", "request"]
def t_after_request (K : PySem.W.Frag) (E : XK) : TS :=
  tSeq (tIfS (tTest (tOp (rEqD K) (tOp (rIx K) (tVar 1) (tC (.int 0))) (tC (.str "read")))) (tRet (tVar 0)) (tNext)) (tRet (tOp (rAddA K) (tOp (rAddA K) (tSl (rSlX K) (tVar 0) (tNoPart) (tPart (tOp (rIx K) (tVar 1) (tC (.int 1))))) (tTup (tCons (tOp (rIx K) (tVar 1) (tC (.int 2))) (tNil)))) (tSl (rSlX K) (tVar 0) (tPart (tOp (rAddA K) (tOp (rIx K) (tVar 1) (tC (.int 1))) (tC (.int 1)))) (tNoPart))))
theorem pure_after_request {K : PySem.W.Frag} {a0 a1 : V} {H : Hp} {Q : VK} {E : XK} (h : q_after_request K a0 a1 H Q E) : t_after_request K E { nx := fun _ H' => Q .non H', rt := Q } (start N_after_request [a0, a1]) H := by
  obtain ⟨ts, b, c, ht, hr, hb, hz, q⟩ := h
  have ht' := ht
  obtain ⟨t, xs, rfl, hts, hta⟩ := Dp.tupOf ht
  have hl := DpAll.length hta
  unfold t_after_request
  cases c with
  | none =>
    obtain ⟨r, ys, rfl, hrs, hra⟩ := Dp.tupOf hr
    obtain _ | ⟨h0, _ | ⟨h1, _ | _⟩⟩ := hra
    cases Dp.strOf h0
    cases Dp.intOf h1
    walk_at "go"
    exact q _ _ (Same.refl H) ht'
  | some c =>
    obtain ⟨r, ys, rfl, hrs, hra⟩ := Dp.tupOf hr
    obtain _ | ⟨h0, _ | ⟨h1, _ | ⟨h2, _ | _⟩⟩⟩ := hra
    cases Dp.strOf h0
    cases Dp.intOf h1
    rename_i x2
    walk_at "go"
    refine i_slTake hts (by omega) fun p1 H1 s1 hp1 => ?_
    have hrs1 := (Keep.same s1).sq hrs
    walk_at "go"
    intro p2 hp2
    have s2 : Same H1 (upd H1 p2 (.tup [x2])) := same_new (Same.refl H1) hp2
    refine i_catT ((Keep.same s2).sq hp1) (sqT upd_same) (by rw [sizeLine_eq, List.length_take]; simp; omega) fun p3 H3 s3 hp3 => ?_
    have hts3 := (Keep.same s3).sq ((Keep.same s2).sq ((Keep.same s1).sq hts))
    have hrs3 := (Keep.same s3).sq ((Keep.same s2).sq hrs1)
    walk_at "go"
    rw [show (b : Int) + 1 = ((b + 1 : Nat) : Int) by omega]
    refine i_slDrop hts3 (by omega) fun p4 H4 s4 hp4 => ?_
    refine i_catT ((Keep.same s4).sq hp3) hp4 (by rw [sizeLine_eq, List.length_append, List.length_take, List.length_drop]; simp; omega) fun p5 H5 s5 hp5 => ?_
    have s := Same.trans s1 (Same.trans s2 (Same.trans s3 (Same.trans s4 s5)))
    refine q _ _ s (.tup hp5 ?_)
    have d0 := DpAll.same s _ _ hta
    have dc := Dp.same s _ _ h2
    have e : afterD ts b (some c) = (ts.take b ++ [c]) ++ ts.drop (b + 1) := by
      show ts.set b c = _
      rw [List.set_eq_take_append_cons_drop, if_pos hb]
      simp
    rw [e]
    exact DpAll.app (DpAll.app (DpAll.take b d0) (.cons dc .nil)) (DpAll.drop (b + 1) d0)
theorem keep_lst {H : Hp} {a : Addr} {xs ys : List V} (hx : H a = some (.lst xs)) : Keep H (L2.upd H a (.lst ys)) := (Keep.refl H).upd fun u e => by
  rw [hx] at e
  cases e
  rfl
theorem tupAll_set {e : PyData} (te : tupOnly e = true) : ∀ (ds : List PyData) (j : Nat), tupAll ds = true → tupAll (ds.set j e) = true
  | [], _, h => h
  | d :: ds, 0, h => by
    have h' : (tupOnly d && tupAll ds) = true := h
    rw [Bool.and_eq_true] at h'
    show (tupOnly e && tupAll ds) = true
    rw [te, h'.2]
    rfl
  | d :: ds, j + 1, h => by
    have h' : (tupOnly d && tupAll ds) = true := h
    rw [Bool.and_eq_true] at h'
    show (tupOnly d && tupAll (ds.set j e)) = true
    rw [h'.1, tupAll_set te ds j h'.2]
    rfl
theorem tupAll_app : ∀ {ds es : List PyData}, tupAll ds = true → tupAll es = true → tupAll (ds ++ es) = true
  | [], _, _, h => h
  | d :: ds, es, h, k => by
    have h' : (tupOnly d && tupAll ds) = true := h
    rw [Bool.and_eq_true] at h'
    show (tupOnly d && tupAll (ds ++ es)) = true
    rw [h'.1, tupAll_app h'.2 k]
    rfl
theorem tupAll_take : ∀ {ds : List PyData} (n : Nat), tupAll ds = true → tupAll (ds.take n) = true
  | [], n, _ => by simp [tupAll]
  | d :: ds, 0, _ => rfl
  | d :: ds, n + 1, h => by
    have h' : (tupOnly d && tupAll ds) = true := h
    rw [Bool.and_eq_true] at h'
    show (tupOnly d && tupAll (ds.take n)) = true
    rw [h'.1, tupAll_take n h'.2]
    rfl
def shAll (ds : List PyData) : Prop := ∀ d ∈ ds, SeqAt.shaped d = true
theorem shAll.set {ds : List PyData} (h : shAll ds) {e : PyData} (he : SeqAt.shaped e = true) (j : Nat) : shAll (ds.set j e) := fun d m => by
  rcases List.mem_or_eq_of_mem_set m with m | rfl
  · exact h d m
  · exact he
def BtS (K : PySem.W.Frag) (t l a : Addr) (r : V) (way : Int) (H0 : Hp) (lo hi : Nat) (tq : Prop) (σ' : L2.St) (H' : Hp) : Prop := σ' = [some (.ref t), some r, some (.ref a), some (.int way)] ∧ Tp H' t l ∧ Stays [t] H0 H' ∧ ∃ xs ds, H' a = some (.lst xs) ∧ DpAll K H' xs ds ∧ (tq → tupAll ds = true) ∧ shAll ds ∧ lo ≤ xs.length ∧ xs.length ≤ hi
theorem BtS.wide {K : PySem.W.Frag} {t l a : Addr} {r : V} {way : Int} {H0 : Hp} {lo hi lo' hi' : Nat} {tq tq' : Prop} {σ' : L2.St} {H' : Hp} (h : BtS K t l a r way H0 lo hi tq σ' H') (h1 : lo' ≤ lo) (h2 : hi ≤ hi') (h3 : tq' → tq) : BtS K t l a r way H0 lo' hi' tq' σ' H' := by
  obtain ⟨e, hT, st, xs, ds, hx, hd, ht, hs, a1, a2⟩ := h
  exact ⟨e, hT, st, xs, ds, hx, hd, fun q => ht (h3 q), hs, by omega, by omega⟩
theorem shaped_rq {b : Nat} {c : Option PyData} (h : okC c) : ∃ ds, rqD b c = .tuple ds ∧ shAll ds ∧ tupAll ds = true ∧ 2 ≤ ds.length ∧ ds.length ≤ 3 := by
  cases c with
  | none =>
    refine ⟨_, rfl, fun d m => ?_, rfl, by simp, by simp⟩
    have m : d = .str "read" ∨ d = .int b := by simpa using m
    rcases m with rfl | rfl
    · decide +kernel
    · exact (Sh.int (n := 0) b).shaped (by decide)
  | some c =>
    have hc := okC_tup h
    obtain ⟨ns, hn, rfl⟩ := h
    refine ⟨_, rfl, fun d m => ?_, ?_, by simp, by simp⟩
    · have m : d = .str "write" ∨ d = .int b ∨ d = .tuple (ns.map .int) := by simpa using m
      rcases m with rfl | rfl | rfl
      · decide +kernel
      · exact (Sh.int (n := 0) b).shaped (by decide)
      · refine (Sh.tup (n := 1) fun d m => ?_).shaped (by decide)
        obtain ⟨i, _, rfl⟩ := List.mem_map.mp m
        exact Sh.int i
    · show (true && (true && (tupOnly _ && true))) = true
      rw [hc]
      rfl
def q_law_bent (K : PySem.W.Frag) (a0 a1 : V) (H : Hp) (Q : VK) (E : XK) : Prop := ∃ (t l : Addr) (b : Nat) (c : Option PyData), a0 = .ref t ∧ Tp H t l ∧ Dp K H a1 (rqD b c) ∧ okC c ∧ ∀ v ds H', Tp H' t l → Stays [t] H H' → Dp K H' v (.tuple ds) → shAll ds → Q v H'
def sp_law_bent (K : PySem.W.Frag) : Sp := fun vs H Q E => match vs with
  | [a0, a1] => q_law_bent K a0 a1 H Q E
  | _ => False
abbrev N_law_bent : List Str := ["_law_tape", "_law_request", "_law_parts", "_law_way"]
def t_law_bent (K : PySem.W.Frag) (E : XK) : TS :=
  tSeq (tAsg (tCB (rListC K) (tCons (tVar 1) (tNil))) (gName 2)) (tSeq (tAsg (tCall (sp_law_next K) [] E0 (tCons (tVar 0) (tCons (tC (.int 7)) (tNil)))) (gName 3)) (tCut (tIfS (tTest (tOp (rEqD K) (tVar 3) (tC (.int 1)))) (tAsg (tOp (rIx K) (tTup (tCons (tC (.str "sync")) (tCons (tC .non) (tCons (tC (.str "write")) (tCons (tC (.str "read")) (tNil)))))) (tCall (sp_law_next K) [] E0 (tCons (tVar 0) (tCons (tC (.int 4)) (tNil))))) (gSub (tVar 2) (tC (.int 0)) rSetL)) (tNext)) (tCut (tIfS (tTest (tOp (rEqD K) (tVar 3) (tC (.int 2)))) (tAsg (tOp (rIx K) (tTup (tCons (tUn rNegI (tC (.int 1))) (tCons (tC (.int 8)) (tCons (tC (.bl true)) (tCons (tC .non) (tCons (tC (.str "0")) (tCons (tC (.int 7)) (tNil)))))))) (tCall (sp_law_next K) [] E0 (tCons (tVar 0) (tCons (tC (.int 6)) (tNil))))) (gSub (tVar 2) (tC (.int 1)) rSetL)) (tNext)) (tCut (tIfS (tTest (tOp (rEqD K) (tVar 3) (tC (.int 3)))) (tDrop (tBM K "list" rAppend (tVar 2) (tCons (tTup (tCons (tC (.int 1)) (tCons (tC (.int 2)) (tCons (tC (.int 3)) (tCons (tC (.int 4)) (tNil)))))) (tNil)))) (tNext)) (tCut (tIfS (tTest (tOp (rEqD K) (tVar 3) (tC (.int 4)))) (tDrop (tBM0 K "list" rPop (tVar 2))) (tNext)) (tCut (tIfS (tTest (tOp (rEqD K) (tVar 3) (tC (.int 5)))) (tAsg (tOp (rIx K) (tTup (tCons (tTup (tCons (tC (.int 1)) (tCons (tC (.int 2)) (tCons (tC (.int 3)) (tNil))))) (tCons (tLst (tCons (tC (.int 1)) (tCons (tC (.int 2)) (tCons (tC (.int 3)) (tCons (tC (.int 4)) (tNil)))))) (tCons (tTup (tCons (tC (.int 1)) (tCons (tC (.int 2)) (tCons (tC (.int 3)) (tCons (tC (.bl true)) (tNil)))))) (tCons (tTup (tCons (tC (.int 1)) (tCons (tC (.int 2)) (tCons (tC (.int 3)) (tCons (tC .non) (tNil)))))) (tCons (tC (.int 5)) (tCons (tTup (tCons (tC (.int 0)) (tCons (tUn rNegI (tC (.int 1))) (tCons (tOp (rPowI) (tC (.int 10)) (tC (.int 20))) (tCons (tC (.int 4)) (tNil)))))) (tNil)))))))) (tCall (sp_law_next K) [] E0 (tCons (tVar 0) (tCons (tC (.int 6)) (tNil))))) (gSub (tVar 2) (tUn rNegI (tC (.int 1))) rSetL)) (tNext)) (tRet (tCB (rTupC K) (tCons (tVar 2) (tNil))))))))))
theorem pure_law_bent {K : PySem.W.Frag} {a0 a1 : V} {H : Hp} {Q : VK} {E : XK} (h : q_law_bent K a0 a1 H Q E) : t_law_bent K E { nx := fun _ H' => Q .non H', rt := Q } (start N_law_bent [a0, a1]) H := by
  obtain ⟨t, l, b, c, rfl, hT, hr, hc, q⟩ := h
  obtain ⟨ds, eds, hsh, htu, hl2, hl3⟩ := shaped_rq (b := b) hc
  rw [eds] at hr
  obtain ⟨r, xs, rfl, hrs, hra⟩ := Dp.tupOf hr
  have hxl := DpAll.length hra
  unfold t_law_bent
  walk_at "go"
  intro a ha
  obtain ⟨ts0, ht0⟩ := hT.at_t
  obtain ⟨ls0, hl0⟩ := hT.at_l
  have nta : t ≠ a := ne_fresh ha ht0
  have nla : l ≠ a := ne_fresh ha hl0
  walk_at "go"
  refine ⟨t, l, 7, rfl, rfl, hT.upd ha, by omega, by omega, fun way H1 hw0 hw1 hT1 st1 => ?_⟩
  have hx1 : H1 a = some (.lst xs) := st1.get upd_same (by simp; exact nta.symm)
  have k1 : Keep H H1 := ((Keep.refl H).new ha).trans ((hT.upd ha).keep st1)
  have base : BtS K t l a (.ref r) way H 2 3 True [some (.ref t), some (.ref r), some (.ref a), some (.int way)] H1 := ⟨rfl, hT1, (Stays.same (same_new (Same.refl H) ha)).trans st1, xs, ds, hx1, DpAll.keep k1 _ _ hra htu, fun _ => htu, hsh, by omega, by omega⟩
  -- a part set to one of a row of values
  have put : ∀ (H2 H5 : Hp) (lo hi j : Nat) (tq : Prop) (x : V) (e : PyData), BtS K t l a (.ref r) way H lo hi True [some (.ref t), some (.ref r), some (.ref a), some (.int way)] H2 → Keep H2 H5 → Stays [t] H2 H5 → Tp H5 t l →
      (∀ o, Dp K (upd H5 a (.lst o)) x e) → (tq → tupOnly e = true) → SeqAt.shaped e = true → ∀ ys, H5 a = some (.lst ys) → BtS K t l a (.ref r) way H lo hi tq [some (.ref t), some (.ref r), some (.ref a), some (.int way)] (upd H5 a (.lst (ys.set j x))) := by
    rintro H2 H5 lo hi j tq x e ⟨_, hT2, st2, ys, es, hy, hd, htu, hsh, h1, h2⟩ k5 st5 hT5 he te se zs hz
    have hy5 := st5.get hy (by simp; exact nta.symm)
    rw [hy5] at hz
    cases hz
    refine ⟨rfl, hT5.put nta nla, (st2.trans st5).new ha, _, es.set j e, upd_same, DpAll.set j (DpAll.keep (k5.trans (keep_lst hy5)) _ _ hd (htu trivial)) (he _), fun q => tupAll_set (te q) es j (htu trivial), hsh.set se j, by rw [List.length_set]; exact h1, by rw [List.length_set]; exact h2⟩
  walk_at "go"
  refine i_cut (BtS K t l a (.ref r) way H 2 3 True) ?_ ?_
  · walk_at "go"
    refine i_ite2 (fun c => ?_) (fun c => ?_)
    · walk_at "go"
      intro p hp
      walk_at "go"
      refine ⟨t, l, 4, rfl, rfl, hT1.upd hp, by omega, by omega, fun v H3 hv0 hv1 hT3 st3 => ?_⟩
      have hp3 := st3.get (b := p) upd_same (by simp; intro z; subst z; obtain ⟨_, e⟩ := hT1.at_t; rw [hp] at e; cases e)
      have k3 : Keep H1 H3 := ((Keep.refl H1).new hp).trans ((hT1.upd hp).keep st3)
      have s3 : Stays [t] H1 H3 := (Stays.same (same_new (Same.refl H1) hp)).trans st3
      obtain ⟨x, e, hx, he, te, se⟩ : ∃ (x : V) (e : PyData), ([V.str "sync", .non, .str "write", .str "read"] : List V)[v.toNat]? = some x ∧ (∀ H : Hp, Dp K H x e) ∧ tupOnly e = true ∧ SeqAt.shaped e = true := by
        have : v = 0 ∨ v = 1 ∨ v = 2 ∨ v = 3 := by omega
        rcases this with rfl | rfl | rfl | rfl
        · exact ⟨_, .str "sync", rfl, fun _ => .str _, rfl, by decide +kernel⟩
        · exact ⟨_, .none, rfl, fun _ => .non, rfl, by decide +kernel⟩
        · exact ⟨_, .str "write", rfl, fun _ => .str _, rfl, by decide +kernel⟩
        · exact ⟨_, .str "read", rfl, fun _ => .str _, rfl, by decide +kernel⟩
      refine i_ixTn (sqT hp3) hv0 hx ?_
      have hx3 : H3 a = some (.lst xs) := s3.get hx1 (by simp; exact nta.symm)
      walk_at "go"
      refine i_setL (j := 0) hx3 (by unfold ixN; rw [if_pos (by decide), if_pos (by omega)]; rfl) ?_
      exact put H1 H3 2 3 0 True x e base k3 s3 hT3 (fun _ => he _) (fun _ => te) se xs hx3
    · exact i_next base
  rintro σ' H2 ⟨rfl, hT2, st2, xs, ds, hx2, hd2, htu2, hsh2, hlo2, hhi2⟩
  have base : BtS K t l a (.ref r) way H 2 3 True [some (.ref t), some (.ref r), some (.ref a), some (.int way)] H2 := ⟨rfl, hT2, st2, xs, ds, hx2, hd2, htu2, hsh2, hlo2, hhi2⟩
  refine i_cut (BtS K t l a (.ref r) way H 2 3 True) ?_ ?_
  · walk_at "go"
    refine i_ite2 (fun c => ?_) (fun c => ?_)
    · walk_at "go"
      intro p hp
      walk_at "go"
      refine ⟨t, l, 6, rfl, rfl, hT2.upd hp, by omega, by omega, fun v H3 hv0 hv1 hT3 st3 => ?_⟩
      have hp3 := st3.get (b := p) upd_same (by simp; intro z; subst z; obtain ⟨_, e⟩ := hT2.at_t; rw [hp] at e; cases e)
      have k3 : Keep H2 H3 := ((Keep.refl H2).new hp).trans ((hT2.upd hp).keep st3)
      have s3 : Stays [t] H2 H3 := (Stays.same (same_new (Same.refl H2) hp)).trans st3
      obtain ⟨x, e, hx, he, te, se⟩ : ∃ (x : V) (e : PyData), ([V.int (-1), .int 8, .bl true, .non, .str "0", .int 7] : List V)[v.toNat]? = some x ∧ (∀ H : Hp, Dp K H x e) ∧ tupOnly e = true ∧ SeqAt.shaped e = true := by
        have : v = 0 ∨ v = 1 ∨ v = 2 ∨ v = 3 ∨ v = 4 ∨ v = 5 := by omega
        rcases this with rfl | rfl | rfl | rfl | rfl | rfl
        · exact ⟨_, .int (-1), rfl, fun _ => .int _, rfl, by decide +kernel⟩
        · exact ⟨_, .int 8, rfl, fun _ => .int _, rfl, by decide +kernel⟩
        · exact ⟨_, .bool true, rfl, fun _ => .bl _, rfl, by decide +kernel⟩
        · exact ⟨_, .none, rfl, fun _ => .non, rfl, by decide +kernel⟩
        · exact ⟨_, .str "0", rfl, fun _ => .str _, rfl, by decide +kernel⟩
        · exact ⟨_, .int 7, rfl, fun _ => .int _, rfl, by decide +kernel⟩
      refine i_ixTn (sqT hp3) hv0 hx ?_
      have hx3 : H3 a = some (.lst xs) := s3.get hx2 (by simp; exact nta.symm)
      walk_at "go"
      refine i_setL (j := 1) hx3 (by unfold ixN; rw [if_pos (by decide), if_pos (by omega)]; rfl) ?_
      exact put H2 H3 2 3 1 True x e base k3 s3 hT3 (fun _ => he _) (fun _ => te) se xs hx3
    · exact i_next base
  clear base hT2 st2 hx2 hd2 htu2 hsh2 hlo2 hhi2 ds xs
  rintro σ' H2 ⟨rfl, hT2, st2, xs, ds, hx2, hd2, htu2, hsh2, hlo2, hhi2⟩
  have base : BtS K t l a (.ref r) way H 2 3 True [some (.ref t), some (.ref r), some (.ref a), some (.int way)] H2 := ⟨rfl, hT2, st2, xs, ds, hx2, hd2, htu2, hsh2, hlo2, hhi2⟩
  refine i_cut (BtS K t l a (.ref r) way H 2 4 True) ?_ ?_
  · walk_at "go"
    refine i_ite2 (fun c => ?_) (fun c => ?_)
    · walk_at "go"
      intro p hp
      have npa : a ≠ p := ne_fresh hp hx2
      walk_at "go"
      refine i_app (upd_at npa hx2) (by rw [sizeLine_eq]; omega) ?_
      have kk := ((Keep.refl H2).new (o := .tup [V.int 1, V.int 2, V.int 3, V.int 4]) hp).trans (keep_lst (ys := xs ++ [.ref p]) (upd_at npa hx2))
      refine ⟨rfl, (hT2.upd hp).put nta nla, (st2.trans (Stays.same (same_new (Same.refl H2) hp))).new ha, xs ++ [.ref p], ds ++ [.tuple ([1, 2, 3, 4].map .int)], upd_same, DpAll.app (DpAll.keep kk _ _ hd2 (htu2 trivial)) (.cons (Dp.tup (sqT (upd_at npa.symm upd_same)) (DpAll.ints [1, 2, 3, 4])) .nil), fun _ => tupAll_app (htu2 trivial) rfl, ?_, by rw [List.length_append]; simp; omega, by rw [List.length_append]; simp; omega⟩
      intro d m
      rcases List.mem_append.mp m with m | m
      · exact hsh2 d m
      · have : d = .tuple ([1, 2, 3, 4].map .int) := by simpa using m
        subst this
        decide +kernel
    · exact i_next (base.wide (by omega) (by omega) id)
  clear base hT2 st2 hx2 hd2 htu2 hsh2 hlo2 hhi2 ds xs
  rintro σ' H2 ⟨rfl, hT2, st2, xs, ds, hx2, hd2, htu2, hsh2, hlo2, hhi2⟩
  have base : BtS K t l a (.ref r) way H 2 4 True [some (.ref t), some (.ref r), some (.ref a), some (.int way)] H2 := ⟨rfl, hT2, st2, xs, ds, hx2, hd2, htu2, hsh2, hlo2, hhi2⟩
  refine i_cut (BtS K t l a (.ref r) way H 1 4 True) ?_ ?_
  · walk_at "go"
    refine i_ite2 (fun c => ?_) (fun c => ?_)
    · walk_at "go"
      refine i_popL hx2 (List.getElem?_eq_getElem (by omega)) ?_
      refine ⟨rfl, hT2.put nta nla, st2.new ha, xs.dropLast, ds.take (xs.length - 1), upd_same, ?_, fun _ => tupAll_take _ (htu2 trivial), fun d m => hsh2 d (List.mem_of_mem_take m), by rw [List.length_dropLast]; omega, by rw [List.length_dropLast]; omega⟩
      rw [List.dropLast_eq_take]
      exact DpAll.take _ (DpAll.keep (keep_lst hx2) _ _ hd2 (htu2 trivial))
    · exact i_next (base.wide (by omega) (by omega) id)
  clear base hT2 st2 hx2 hd2 htu2 hsh2 hlo2 hhi2 ds xs
  rintro σ' H2 ⟨rfl, hT2, st2, xs, ds, hx2, hd2, htu2, hsh2, hlo2, hhi2⟩
  have base : BtS K t l a (.ref r) way H 1 4 True [some (.ref t), some (.ref r), some (.ref a), some (.int way)] H2 := ⟨rfl, hT2, st2, xs, ds, hx2, hd2, htu2, hsh2, hlo2, hhi2⟩
  refine i_cut (BtS K t l a (.ref r) way H 1 4 False) ?_ ?_
  · walk_at "go"
    refine i_ite2 (fun c => ?_) (fun c => ?_)
    · walk_at "go"
      intro p1 hp1
      walk_at "go"
      intro p2 hp2
      walk_at "go"
      intro p3 hp3
      walk_at "go"
      intro p4 hp4
      walk_at "go"
      intro p5 hp5
      walk_at "go"
      intro p6 hp6
      have n12 : p1 ≠ p2 := ne_fresh hp2 upd_same
      have n13 : p1 ≠ p3 := ne_fresh hp3 (upd_at n12 upd_same)
      have n14 : p1 ≠ p4 := ne_fresh hp4 (upd_at n13 (upd_at n12 upd_same))
      have n15 : p1 ≠ p5 := ne_fresh hp5 (upd_at n14 (upd_at n13 (upd_at n12 upd_same)))
      have n16 : p1 ≠ p6 := ne_fresh hp6 (upd_at n15 (upd_at n14 (upd_at n13 (upd_at n12 upd_same))))
      have n23 : p2 ≠ p3 := ne_fresh hp3 upd_same
      have n24 : p2 ≠ p4 := ne_fresh hp4 (upd_at n23 upd_same)
      have n25 : p2 ≠ p5 := ne_fresh hp5 (upd_at n24 (upd_at n23 upd_same))
      have n26 : p2 ≠ p6 := ne_fresh hp6 (upd_at n25 (upd_at n24 (upd_at n23 upd_same)))
      have n34 : p3 ≠ p4 := ne_fresh hp4 upd_same
      have n35 : p3 ≠ p5 := ne_fresh hp5 (upd_at n34 upd_same)
      have n36 : p3 ≠ p6 := ne_fresh hp6 (upd_at n35 (upd_at n34 upd_same))
      have n45 : p4 ≠ p5 := ne_fresh hp5 upd_same
      have n46 : p4 ≠ p6 := ne_fresh hp6 (upd_at n45 upd_same)
      have n56 : p5 ≠ p6 := ne_fresh hp6 upd_same
      have ss := fun o => same_nx (o := o) (same_nx (same_nx (same_nx (same_nx (same_nx (Same.refl H2) hp1) hp2) hp3) hp4) hp5) hp6
      have na1 : a ≠ p1 := ne_fresh hp1 hx2
      have na2 : a ≠ p2 := ne_fresh hp2 (upd_at na1 hx2)
      have na3 : a ≠ p3 := ne_fresh hp3 (upd_at na2 (upd_at na1 hx2))
      have na4 : a ≠ p4 := ne_fresh hp4 (upd_at na3 (upd_at na2 (upd_at na1 hx2)))
      have na5 : a ≠ p5 := ne_fresh hp5 (upd_at na4 (upd_at na3 (upd_at na2 (upd_at na1 hx2))))
      obtain ⟨tts, ht2⟩ := hT2.at_t
      have nt1 : t ≠ p1 := ne_fresh hp1 ht2
      have nt2 : t ≠ p2 := ne_fresh hp2 (upd_at nt1 ht2)
      have nt3 : t ≠ p3 := ne_fresh hp3 (upd_at nt2 (upd_at nt1 ht2))
      have nt4 : t ≠ p4 := ne_fresh hp4 (upd_at nt3 (upd_at nt2 (upd_at nt1 ht2)))
      have nt5 : t ≠ p5 := ne_fresh hp5 (upd_at nt4 (upd_at nt3 (upd_at nt2 (upd_at nt1 ht2))))
      have nt6 : t ≠ p6 := ne_fresh hp6 (upd_at nt5 (upd_at nt4 (upd_at nt3 (upd_at nt2 (upd_at nt1 ht2)))))
      walk_at "go"
      refine ⟨t, l, 6, rfl, rfl, hT2.same (ss _), by omega, by omega, fun v H3 hv0 hv1 hT3 st3 => ?_⟩
      have g1 := st3.get (b := p1) (upd_at n16 (upd_at n15 (upd_at n14 (upd_at n13 (upd_at n12 upd_same))))) (by simp; exact nt1.symm)
      have g2 := st3.get (b := p2) (upd_at n26 (upd_at n25 (upd_at n24 (upd_at n23 upd_same)))) (by simp; exact nt2.symm)
      have g3 := st3.get (b := p3) (upd_at n36 (upd_at n35 (upd_at n34 upd_same))) (by simp; exact nt3.symm)
      have g4 := st3.get (b := p4) (upd_at n46 (upd_at n45 upd_same)) (by simp; exact nt4.symm)
      have g5 := st3.get (b := p5) (upd_at n56 upd_same) (by simp; exact nt5.symm)
      have g6 := st3.get (b := p6) upd_same (by simp; exact nt6.symm)
      have s3 : Stays [t] H2 H3 := (Stays.same (ss _)).trans st3
      have k3 : Keep H2 H3 := hT2.keep s3
      obtain ⟨x, e, hx, he, se⟩ : ∃ (x : V) (e : PyData), ([V.ref p1, .ref p2, .ref p3, .ref p4, .int 5, .ref p5] : List V)[v.toNat]? = some x ∧ (∀ o, Dp K (upd H3 a (.lst o)) x e) ∧ SeqAt.shaped e = true := by
        have : v = 0 ∨ v = 1 ∨ v = 2 ∨ v = 3 ∨ v = 4 ∨ v = 5 := by omega
        rcases this with rfl | rfl | rfl | rfl | rfl | rfl
        · exact ⟨_, .tuple ([1, 2, 3].map .int), rfl, fun _ => .tup (sqT (upd_at na1.symm g1)) (DpAll.ints [1, 2, 3]), by decide +kernel⟩
        · exact ⟨_, .list ([1, 2, 3, 4].map .int), rfl, fun _ => .lst (sqL (upd_at na2.symm g2)) (DpAll.ints [1, 2, 3, 4]), by decide +kernel⟩
        · exact ⟨_, .tuple [.int 1, .int 2, .int 3, .bool true], rfl, fun _ => .tup (sqT (upd_at na3.symm g3)) (.cons (.int _) (.cons (.int _) (.cons (.int _) (.cons (.bl _) .nil)))), by decide +kernel⟩
        · exact ⟨_, .tuple [.int 1, .int 2, .int 3, .none], rfl, fun _ => .tup (sqT (upd_at na4.symm g4)) (.cons (.int _) (.cons (.int _) (.cons (.int _) (.cons .non .nil)))), by decide +kernel⟩
        · exact ⟨_, .int 5, rfl, fun _ => .int _, by decide +kernel⟩
        · exact ⟨_, .tuple [.int 0, .int (-1), .int (10 ^ (20 : Int).toNat), .int 4], rfl, fun _ => .tup (sqT (upd_at na5.symm g5)) (.cons (.int _) (.cons (.int _) (.cons (.int _) (.cons (.int _) .nil)))), by decide +kernel⟩
      refine i_ixTn (sqT g6) hv0 hx ?_
      have hx3 : H3 a = some (.lst xs) := s3.get hx2 (by simp; exact nta.symm)
      walk_at "go"
      refine i_setL (j := xs.length - 1) hx3 (by unfold ixN; rw [if_neg (by decide), if_pos (by omega)]; congr 1; omega) ?_
      exact put H2 H3 1 4 (xs.length - 1) False x e base k3 s3 hT3 he (fun z => z.elim) se xs hx3
    · exact i_next (base.wide (by omega) (by omega) fun z => z.elim)
  clear base hT2 st2 hx2 hd2 htu2 hsh2 hlo2 hhi2 ds xs
  rintro σ' H2 ⟨rfl, hT2, st2, xs, ds, hx2, hd2, htu2, hsh2, hlo2, hhi2⟩
  walk_at "go"
  intro p hp
  have s := same_new (o := .tup xs) (Same.refl H2) hp
  exact q _ ds _ (hT2.upd hp) (st2.trans (Stays.same s)) (.tup (sqT upd_same) (DpAll.same s _ _ hd2)) hsh2
def q_law_integer (K : PySem.W.Frag) (a0 : V) (H : Hp) (Q : VK) (E : XK) : Prop := ∃ d, Dp K H a0 d ∧ Q (.bl (isI d)) H
def sp_law_integer (K : PySem.W.Frag) : Sp := fun vs H Q E => match vs with
  | [a0] => q_law_integer K a0 H Q E
  | _ => False
abbrev N_law_integer : List Str := ["_law_value"]
def t_law_integer (K : PySem.W.Frag) (E : XK) : TS :=
  tRet (tAndV (tCB (rIsi K) (tCons (tVar 0) (tCons (tC (.ty "int")) (tNil)))) (tNotV (tCB (rIsi K) (tCons (tVar 0) (tCons (tC (.ty "bool")) (tNil))))))
theorem pure_law_integer {K : PySem.W.Frag} {a0 : V} {H : Hp} {Q : VK} {E : XK} (h : q_law_integer K a0 H Q E) : t_law_integer K E { nx := fun _ H' => Q .non H', rt := Q } (start N_law_integer [a0]) H := by
  obtain ⟨d, hd, q⟩ := h
  unfold t_law_integer
  rw [← inst_isI] at q
  walk_at "go"
  refine i_isiInt hd ?_
  walk_at "go"
  refine i_ite2 (fun c => ?_) (fun c => ?_)
  · walk_at "go"
    refine i_isiBool hd ?_
    walk_at "go"
    rw [c] at q
    exact q
  · rw [c] at q
    exact q
def q_law_due (K : PySem.W.Frag) (a0 : V) (H : Hp) (Q : VK) (E : XK) : Prop := ∃ ds, Dp K H a0 (.tuple ds) ∧ (∀ a r, ds = a :: r → SeqAt.shaped a = true) ∧ ∀ H', Same H H' → Q (.bl (isReq (.tuple ds))) H'
def sp_law_due (K : PySem.W.Frag) : Sp := fun vs H Q E => match vs with
  | [a0] => q_law_due K a0 H Q E
  | _ => False
abbrev N_law_due : List Str := ["_law_parts", "_law_value"]
def t_law_due (K : PySem.W.Frag) (E : XK) : TS :=
  tSeq (tIfS (tOr (tTest (tOp (rLtI) (tCB (rLenA K) (tCons (tVar 0) (tNil))) (tC (.int 2)))) (tOr (tNot (tTru K (tCall (sp_law_integer K) [] E0 (tCons (tOp (rIx K) (tVar 0) (tC (.int 1))) (tNil))))) (tNot (tTest (tChain (rLeI) (rLeI) (tC (.int 0)) (tOp (rIx K) (tVar 0) (tC (.int 1))) (tC (.int 7))))))) (tRet (tC (.bl false))) (tNext)) (tSeq (tIfS (tTest (tOp (rEqD K) (tOp (rIx K) (tVar 0) (tC (.int 0))) (tC (.str "read")))) (tRet (tOp (rEqD K) (tCB (rLenA K) (tCons (tVar 0) (tNil))) (tC (.int 2)))) (tNext)) (tSeq (tIfS (tOr (tTest (tOp (rNeD K) (tOp (rIx K) (tVar 0) (tC (.int 0))) (tC (.str "write")))) (tOr (tTest (tOp (rNeD K) (tCB (rLenA K) (tCons (tVar 0) (tNil))) (tC (.int 3)))) (tOr (tNot (tTru K (tCB (rIsi K) (tCons (tOp (rIx K) (tVar 0) (tC (.int 2))) (tCons (tC (.ty "tuple")) (tNil)))))) (tTest (tOp (rNeD K) (tCB (rLenA K) (tCons (tOp (rIx K) (tVar 0) (tC (.int 2))) (tNil))) (tC (.int 4))))))) (tRet (tC (.bl false))) (tNext)) (tSeq (tFor (iTup K (tOp (rIx K) (tVar 0) (tC (.int 2)))) (gName 1) (tIfS (tNot (tTru K (tCall (sp_law_integer K) [] E0 (tCons (tVar 1) (tNil))))) (tRet (tC (.bl false))) (tNext))) (tRet (tC (.bl true))))))
theorem pure_law_due {K : PySem.W.Frag} {a0 : V} {H : Hp} {Q : VK} {E : XK} (h : q_law_due K a0 H Q E) : t_law_due K E { nx := fun _ H' => Q .non H', rt := Q } (start N_law_due [a0]) H := by
  obtain ⟨ds, hd, sh, q⟩ := h
  have q := q H (Same.refl H)
  unfold t_law_due
  obtain ⟨a, xs, rfl, hs, ha⟩ := Dp.tupOf hd
  have hl := DpAll.length ha
  walk_at "go"
  refine i_ite2 (fun c => ?_) (fun c => ?_)
  · have c := of_decide_eq_true c
    have e : isReq (.tuple ds) = false := by
      match ds, hl with
      | [], _ => rfl
      | [_], _ => rfl
      | _ :: _ :: _, hl => simp at hl; omega
    rw [e] at q
    walk_at "go"
    exact q
  have c := of_decide_eq_false c
  match ds, xs, hl, ha, hs, c with
  | [], _, hl, _, _, c => simp at hl; subst hl; simp at c
  | [_], _, hl, _, _, c => simp at hl; rw [hl] at c; simp at c
  | d0 :: d1 :: dr, x0 :: x1 :: xr, hl, ha, hs, c =>
    obtain _ | ⟨h0, _ | ⟨h1, hr⟩⟩ := ha
    have hlr := DpAll.length hr
    have s0 := sh d0 _ rfl
    have e : isReq (.tuple (d0 :: d1 :: dr)) = (isBlk d1 && (if PyData.eqv d0 (.str "read") = true then dr.length == 0 else PyData.eqv d0 (.str "write") && (dr.length == 1 && are4 (dr.getD 0 .none)))) := rfl
    rw [e] at q
    walk_at "go"
    refine ⟨d1, h1, ?_⟩
    walk_at "go"
    refine i_ite2 (fun c => ?_) (fun c => ?_)
    · have : isBlk d1 = false := by cases d1 <;> first | rfl | cases c
      rw [this] at q
      walk_at "go"
      exact q
    obtain ⟨b, rfl⟩ := isI_of (d := d1) (by simpa using c)
    have e := Dp.intOf h1
    subst e
    have cut : ∀ z : Bool, (0 ≤ b ∧ b < 8) ∧ z = true ∨ ¬ (0 ≤ b ∧ b < 8) ∧ z = false → z = isBlk (.int b) := by
      intro z hz
      show _ = (decide (0 ≤ b) && decide (b < 8))
      rcases hz with ⟨⟨a1, a2⟩, rfl⟩ | ⟨a, rfl⟩
      · rw [decide_eq_true a1, decide_eq_true a2]; rfl
      · by_cases a1 : 0 ≤ b
        · have a2 : ¬ b < 8 := fun z => a ⟨a1, z⟩
          rw [decide_eq_true a1, decide_eq_false a2]; rfl
        · rw [decide_eq_false a1]; rfl
    have bad : ¬ (0 ≤ b ∧ b < 8) → Q (.bl false) H := fun n => by
      rw [← cut false (.inr ⟨n, rfl⟩)] at q
      exact q
    walk_at "go"
    refine i_ite2 (fun c1 => ?_) (fun c1 => ?_)
    · have c1 := of_decide_eq_true c1
      walk_at "go"
      refine i_ite2 (fun c2 => ?_) (fun c2 => ?_)
      · have : ¬ b ≤ 7 := by simpa using c2
        walk_at "go"
        exact bad (by omega)
      have : b ≤ 7 := by simpa using c2
      rw [← cut true (.inl ⟨⟨c1, by omega⟩, rfl⟩), Bool.true_and] at q
      walk_at "go"
      refine i_eqD h0 (.str "read") s0 (by decide +kernel) ?_
      walk_at "go"
      refine i_ite2 (fun c => ?_) (fun c => ?_)
      · rw [if_pos c] at q
        walk_at "go"
        have e2 : (((x0 :: V.int b :: xr).length : Int) == 2) = (dr.length == 0) := by
          rw [← hlr, List.length_cons, List.length_cons, Bool.eq_iff_iff, beq_iff_eq, beq_iff_eq]
          omega
        rw [e2]
        exact q
      rw [if_neg (by simp [c])] at q
      walk_at "go"
      refine i_neD h0 (.str "write") s0 (by decide +kernel) ?_
      walk_at "go"
      refine i_ite2 (fun c => ?_) (fun c => ?_)
      · have c : PyData.eqv d0 (.str "write") = false := by simpa using c
        rw [c] at q
        walk_at "go"
        exact q
      have c : PyData.eqv d0 (.str "write") = true := by simpa using c
      rw [c, Bool.true_and] at q
      have e2 : (((x0 :: V.int b :: xr).length : Int) == 3) = (dr.length == 1) := by
        rw [← hlr, List.length_cons, List.length_cons, Bool.eq_iff_iff, beq_iff_eq, beq_iff_eq]
        omega
      walk_at "go"
      rw [e2]
      refine i_ite2 (fun c => ?_) (fun c => ?_)
      · have c : (dr.length == 1) = false := by simpa using c
        rw [c] at q
        walk_at "go"
        exact q
      have c : (dr.length == 1) = true := by simpa using c
      rw [c, Bool.true_and] at q
      match dr, xr, hr, c with
      | [], _, _, c => cases c
      | _ :: _ :: _, _, _, c => simp at c
      | [d2], [x2], hr, _ =>
        obtain _ | ⟨h2, _⟩ := hr
        have q : Q (.bl (are4 d2)) H := q
        walk_at "go"
        refine i_isiTup h2 ?_
        walk_at "go"
        refine i_ite2 (fun c => ?_) (fun c => ?_)
        · have : are4 d2 = false := by cases d2 <;> first | rfl | cases c
          rw [this] at q
          walk_at "go"
          exact q
        obtain ⟨es, rfl⟩ := isReq_tup (d := d2) (by simpa using c)
        obtain ⟨a2, ys, rfl, hs2, ha2⟩ := Dp.tupOf h2
        have hl2 := DpAll.length ha2
        have q : Q (.bl (es.length == 4 && es.all isI)) H := q
        walk_at "go"
        refine i_ite2 (fun c => ?_) (fun c => ?_)
        · have : (es.length == 4) = false := by
            rw [← hl2]
            simp at c
            simp
            omega
          rw [this] at q
          walk_at "go"
          exact q
        have : (es.length == 4) = true := by
          rw [← hl2]
          simp at c
          simp
          omega
        rw [this, Bool.true_and] at q
        walk_at "go"
        refine f_tup ys (fun k σ' H' => H' = H ∧ (∃ v, σ' = [some (.ref a), v]) ∧ ∀ j e, j < k → es[j]? = some e → isI e = true) ?_ ?_ ?_ ?_
        · rintro k σ' H' ⟨rfl, _⟩
          exact hs2
        · exact ⟨rfl, ⟨_, rfl⟩, fun j e hj => absurd hj (Nat.not_lt_zero j)⟩
        · rintro k x σ' H' hx ⟨rfl, ⟨v, rfl⟩, hi⟩
          obtain ⟨e, he, hxe⟩ := DpAll.get ha2 hx
          walk_at "go"
          refine ⟨e, hxe, ?_⟩
          walk_at "go"
          refine i_ite2 (fun c => ?_) (fun c => ?_)
          · have c : isI e = false := by simpa using c
            have : es.all isI = false := by
              rw [List.all_eq_false]
              exact ⟨e, List.mem_of_getElem? he, by simp [c]⟩
            rw [this] at q
            walk_at "go"
            exact q
          · have c : isI e = true := by simpa using c
            refine i_next ⟨rfl, ⟨_, rfl⟩, fun j e' hj he' => ?_⟩
            rcases Nat.lt_succ_iff_lt_or_eq.mp hj with hj | rfl
            · exact hi j e' hj he'
            · rw [he] at he'
              cases he'
              exact c
        · rintro σ' H' ⟨rfl, ⟨v, rfl⟩, hi⟩
          have : es.all isI = true := by
            rw [List.all_eq_true]
            intro e he
            obtain ⟨j, hj⟩ := List.getElem?_of_mem he
            have := (List.getElem?_eq_some_iff.mp hj).1
            exact hi j e (by omega) hj
          rw [this] at q
          walk_at "go"
          exact q
    · have c1 := of_decide_eq_false c1
      walk_at "go"
      exact bad (by omega)
def isRow (d : PyData) : Prop := ∃ ns : List Int, ns.length = 4 ∧ d = .tuple (ns.map .int)
theorem isRow.tup {d : PyData} (h : isRow d) : tupOnly d = true := by
  obtain ⟨ns, _, rfl⟩ := h
  exact tup_ints ns
theorem isRow.sh {d : PyData} (h : isRow d) : Sh 2 d := by
  obtain ⟨ns, _, rfl⟩ := h
  refine Sh.tup fun d m => ?_
  obtain ⟨i, _, rfl⟩ := List.mem_map.mp m
  exact Sh.int i
theorem rows_tup : ∀ {ts : List PyData}, (∀ d ∈ ts, isRow d) → tupAll ts = true
  | [], _ => rfl
  | d :: ts, h => by
    show (tupOnly d && tupAll ts) = true
    rw [(h d (by simp)).tup, rows_tup fun x m => h x (by simp [m])]
    rfl
theorem rows_sh {ts : List PyData} (h : ∀ d ∈ ts, isRow d) : Sh 3 (.tuple ts) := Sh.tup fun d m => (h d m).sh
theorem row0_row : isRow row0 := ⟨[0, 0, 0, 0], rfl, rfl⟩
def Tie (K : PySem.W.Frag) (H : Hp) (kvs : List (Key × V)) (ts : List PyData) : Prop := ∀ b : Nat, b < 8 → ∃ d, ts[b]? = some d ∧ ((∃ v, valV kvs (.inl (b : Int)) = some v ∧ Dp K H v d) ∨ (valV kvs (.inl (b : Int)) = none ∧ d = row0))
theorem Tie.keep {K : PySem.W.Frag} {H H' : Hp} {kvs : List (Key × V)} {ts : List PyData} (h : Tie K H kvs ts) (k : Keep H H') (r : ∀ d ∈ ts, isRow d) : Tie K H' kvs ts := fun b hb => by
  obtain ⟨d, h1, h2⟩ := h b hb
  refine ⟨d, h1, ?_⟩
  rcases h2 with ⟨v, e, hv⟩ | h2
  · exact .inl ⟨v, e, Dp.keep k _ _ hv (r d (List.mem_of_getElem? h1)).tup⟩
  · exact .inr h2
structure LwS (K : PySem.W.Frag) (t l p a : Addr) (xs : List V) (rs : List (Nat × Option PyData)) (n : Nat) (vt : V) (ts : List PyData) (kvs : List (Key × V)) (H : Hp) : Prop where
  tp : Tp H t l
  ha : H a = some (.lst xs)
  hd : DpAll K H xs (rqDs rs)
  ok : ∀ r ∈ rs, rqOk r
  ht : Dp K H vt (.tuple ts)
  len : ts.length = 8
  rows : ∀ d ∈ ts, isRow d
  hp : H p = some (.dK kvs)
  kl : kvs.length ≤ n
  tie : Tie K H kvs ts
theorem LwS.same {K : PySem.W.Frag} {t l p a : Addr} {xs : List V} {rs : List (Nat × Option PyData)} {n : Nat} {vt : V} {ts : List PyData} {kvs : List (Key × V)} {H H' : Hp} (h : LwS K t l p a xs rs n vt ts kvs H) (s : Same H H') : LwS K t l p a xs rs n vt ts kvs H' :=
  ⟨h.tp.same s, s _ _ h.ha, DpAll.same s _ _ h.hd, h.ok, Dp.same s _ _ h.ht, h.len, h.rows, s _ _ h.hp, h.kl, h.tie.keep (Keep.same s) h.rows⟩
theorem LwS.stays {K : PySem.W.Frag} {t l p a : Addr} {xs : List V} {rs : List (Nat × Option PyData)} {n : Nat} {vt : V} {ts : List PyData} {kvs : List (Key × V)} {H H' : Hp} (h : LwS K t l p a xs rs n vt ts kvs H) (hT : Tp H' t l) (s : Stays [t] H H') (na : a ≠ t) (np : p ≠ t) : LwS K t l p a xs rs n vt ts kvs H' :=
  have k := h.tp.keep s
  ⟨hT, s.get h.ha (by simpa using na), DpAll.keep k _ _ h.hd (rqs_tup h.ok), h.ok, Dp.keep k _ _ h.ht (rows_tup h.rows), h.len, h.rows, s.get h.hp (by simpa using np), h.kl, h.tie.keep k h.rows⟩
theorem rq_ok {b : Nat} {c : Option PyData} (hb : b < 8) (hc : okC c) : isReq (rqD b c) = true := by
  have hB : isBlk (.int (b : Int)) = true := by
    show (decide (0 ≤ (b : Int)) && decide ((b : Int) < 8)) = true
    rw [decide_eq_true (by omega), decide_eq_true (by omega)]
    rfl
  cases c with
  | none =>
    show (isBlk (.int (b : Int)) && _) = true
    rw [hB]
    decide +kernel
  | some c =>
    obtain ⟨ns, hn, rfl⟩ := hc
    have h4 : are4 (.tuple (ns.map .int)) = true := by
      show (((ns.map PyData.int).length == 4) && (ns.map PyData.int).all isI) = true
      rw [List.length_map, hn, List.all_map]
      simp [isI]
    have e1 : PyData.eqv (.str "write") (.str "read") = false := by decide +kernel
    have e2 : PyData.eqv (.str "write") (.str "write") = true := by decide +kernel
    show (isBlk (.int (b : Int)) && (if PyData.eqv (.str "write") (.str "read") = true then _ else PyData.eqv (.str "write") (.str "write") && ((1 == 1) && are4 (.tuple (ns.map .int))))) = true
    rw [hB, h4, e1, e2]
    rfl
def q_law (K : PySem.W.Frag) (a0 : V) (H : Hp) (Q : VK) (E : XK) : Prop := ∃ (a : Addr) (ns : List Int), a0 = .ref a ∧ ns.length ≤ 63 ∧ SqL K H a (ns.map V.int) ∧ ∀ H', Q (.bl true) H'
def sp_law (K : PySem.W.Frag) : Sp := fun vs H Q E => match vs with
  | [a0] => q_law K a0 H Q E
  | _ => False
abbrev N_law : List Str := ["_law_script", "_law_tape", "_law_table", "_law_plain", "_law_request", "_law_before", "_law_due_here", "_law_after", "_law_bent_here", "_law_told", "_law_block"]
def t_law (K : PySem.W.Frag) (E : XK) : TS :=
  tSeq (tAsg (tLst (tCons (tCB (rListC K) (tCons (tVar 0) (tNil))) (tCons (tC (.int 0)) (tCons (tC (.int 0)) (tCons (tC (.int 5)) (tNil)))))) (gName 1)) (tSeq (tAsg (tCall (sp_new_table K) [] E0 tNil) (gName 2)) (tSeq (tAsg (tDNewK) (gName 3)) (tSeq (tFor (iList K (tCall (sp_law_requests K) [] E0 (tCons (tVar 1) (tCons (tCall (sp_law_next K) [] E0 (tCons (tVar 1) (tCons (tC (.int 21)) (tNil)))) (tNil))))) (gName 4) (tSeq (tAsg (tCB (rTupC K) (tCons (tCB (rListC K) (tCons (tVar 2) (tNil))) (tNil))) (gName 5)) (tSeq (tAsg (tTup (tCons (tC (.str "ok")) (tCons (tC .non) (tNil)))) (gName 6)) (tCut (tIfS (tTest (tOp (rEqD K) (tOp (rIx K) (tVar 4) (tC (.int 0))) (tC (.str "read")))) (tAsg (tTup (tCons (tC (.str "ok")) (tCons (tDGet2 (tVar 3) (tOp (rIx K) (tVar 4) (tC (.int 1))) (tTup (tCons (tC (.int 0)) (tCons (tC (.int 0)) (tCons (tC (.int 0)) (tCons (tC (.int 0)) (tNil))))))) (tNil)))) (gName 6)) (tNext)) (tSeq (tIfS (tOr (tTest (tOp (rNeD K) (tCall (sp_answer_of K) [] E0 (tCons (tVar 2) (tCons (tVar 4) (tNil)))) (tVar 6))) (tTest (tOp (rNotB) (tCall (sp_is_request K) [] E0 (tCons (tVar 4) (tNil))) (tC (.bl true))))) (tRet (tC (.bl false))) (tNext)) (tSeq (tAsg (tCall (sp_after_request K) [] E0 (tCons (tVar 2) (tCons (tVar 4) (tNil)))) (gName 7)) (tCut (tIfS (tTest (tOp (rEqD K) (tOp (rIx K) (tVar 4) (tC (.int 0))) (tC (.str "write")))) (sDPut (tVar 3) (tOp (rIx K) (tVar 4) (tC (.int 1))) (tOp (rIx K) (tVar 4) (tC (.int 2)))) (tNext)) (tSeq (tIfS (tOr (tTest (tOp (rNeD K) (tVar 7) (tCB (rTupC K) (tCons (tLc (iRng1 (tCons (tC (.int 8)) (tNil))) (gName 10) (tYes) (tDGet2 (tVar 3) (tVar 10) (tTup (tCons (tC (.int 0)) (tCons (tC (.int 0)) (tCons (tC (.int 0)) (tCons (tC (.int 0)) (tNil))))))) [10]) (tNil))))) (tTest (tOp (rNeD K) (tVar 2) (tVar 5)))) (tRet (tC (.bl false))) (tNext)) (tSeq (tAsg (tVar 7) (gName 2)) (tSeq (tAsg (tCall (sp_law_bent K) [] E0 (tCons (tVar 1) (tCons (tVar 4) (tNil)))) (gName 8)) (tSeq (tAsg (tCall (sp_is_request K) [] E0 (tCons (tVar 8) (tNil))) (gName 9)) (tIfS (tOr (tNot (tTru K (tCB (rIsi K) (tCons (tVar 9) (tCons (tC (.ty "bool")) (tNil)))))) (tTest (tOp (rNeD K) (tVar 9) (tCall (sp_law_due K) [] E0 (tCons (tVar 8) (tNil)))))) (tRet (tC (.bl false))) (tNext))))))))))))) (tRet (tAndV (tNotV (tCall (sp_is_request K) [] E0 (tCons (tC .non) (tNil)))) (tNotV (tCall (sp_is_request K) [] E0 (tCons (tLst (tCons (tC (.str "read")) (tCons (tC (.int 0)) (tNil)))) (tNil)))))))))
theorem pure_law {K : PySem.W.Frag} {a0 : V} {H : Hp} {Q : VK} {E : XK} (h : q_law K a0 H Q E) : t_law K E { nx := fun _ H' => Q .non H', rt := Q } (start N_law [a0]) H := by
  obtain ⟨sc, ns, rfl, hns, hsc, q⟩ := h
  unfold t_law
  walk_at "go"
  intro l hl
  walk_at "go"
  intro t ht
  have nlt : l ≠ t := ne_fresh ht upd_same
  have hT : Tp (upd (upd H l (.lst (ns.map V.int))) t (.lst [.ref l, .int 0, .int 0, .int 5])) t l := ⟨ns, 0, 0, 5, upd_same, upd_at nlt upd_same, by omega, by decide⟩
  walk_at "go"
  intro vt H1 s1 hvt
  have hT1 := hT.same s1
  walk_at "go"
  intro p hp
  have s2 := same_new (o := .dK []) (Same.refl H1) hp
  have hT2 := hT1.same s2
  have hvt2 := Dp.same s2 _ _ hvt
  obtain ⟨_, et⟩ := hT1.at_t
  have npt : p ≠ t := (ne_fresh hp et).symm
  obtain ⟨_, el⟩ := hT1.at_l
  have npl : p ≠ l := (ne_fresh hp el).symm
  clear et el
  walk_at "go"
  refine ⟨t, l, 21, rfl, rfl, hT2, by omega, by omega, fun m H3 hm0 hm1 hT3 st3 => ?_⟩
  walk_at "go"
  refine ⟨t, l, m, rfl, rfl, hT3, by omega, by omega, fun a xs rs H4 hT4 st4 ha hxs hd ok hlen => ?_⟩
  have hp4 : H4 p = some (.dK []) := (st3.trans st4).get upd_same (by simpa using npt)
  have hvt4 : Dp K H4 vt (.tuple (List.replicate 8 row0)) := Dp.keep ((hT2.keep st3).trans (hT3.keep st4)) _ _ hvt2 (by decide +kernel)
  have nat : a ≠ t := by
    obtain ⟨_, e⟩ := hT3.at_t
    exact (ne_fresh ha e).symm
  have nal : a ≠ l := by
    obtain ⟨_, e⟩ := hT3.at_l
    exact (ne_fresh ha e).symm
  have nap : a ≠ p := (ne_fresh ha (st3.get upd_same (by simpa using npt))).symm
  walk_at "go"
  refine f_list xs (fun k σ' H' => ∃ vt ts kvs x4 x5 x6 x7 x8 x9, σ' = [some (.ref sc), some (.ref t), some vt, some (.ref p), x4, x5, x6, x7, x8, x9, none] ∧ LwS K t l p a xs rs k vt ts kvs H') ?_ ?_ ?_ ?_
  · rintro k σ' H' ⟨vt, ts, kvs, x4, x5, x6, x7, x8, x9, rfl, h⟩
    exact sqL h.ha
  · refine ⟨vt, _, [], _, _, _, _, _, _, rfl, hT4, hxs, hd, ok, hvt4, rfl, fun d m => ?_, hp4, Nat.le_refl 0, fun b hb => ⟨row0, ?_, .inr ⟨rfl, rfl⟩⟩⟩
    · rw [List.eq_of_mem_replicate m]
      exact row0_row
    · rw [List.getElem?_replicate, if_pos hb]
  · rintro k x σ' H' hx ⟨vt, ts, kvs, x4, x5, x6, x7, x8, x9, rfl, h⟩
    obtain ⟨rd, hrd, hxd⟩ := DpAll.get h.hd hx
    obtain ⟨⟨b, c⟩, hbc, rfl⟩ : ∃ bc : Nat × Option PyData, bc ∈ rs ∧ rd = rqD bc.1 bc.2 := by
      have := List.mem_of_getElem? hrd
      rw [rqDs, List.mem_map] at this
      obtain ⟨bc, m, e⟩ := this
      exact ⟨bc, m, e.symm⟩
    have hb : b < 8 := (h.ok _ hbc).1
    have hc : okC c := (h.ok _ hbc).2
    have hk20 : k < 20 := by
      have := (List.getElem?_eq_some_iff.mp hrd).1
      rw [rqDs, List.length_map] at this
      omega
    have hxd : Dp K H' x (rqD b c) := hxd
    have hxt := rq_tup (b := b) hc
    obtain ⟨tv, ys, rfl, hts, hta⟩ := Dp.tupOf h.ht
    obtain ⟨r, zs, rfl, hrs, hra⟩ : ∃ r zs, x = .ref r ∧ SqT K H' r zs ∧ ∃ c0 rest, zs = .str c0 :: .int b :: rest ∧ (c = none ∧ c0 = ("read" : Str) ∧ rest = [] ∨ ∃ d v, c = some d ∧ c0 = ("write" : Str) ∧ rest = [v] ∧ Dp K H' v d) := by
      cases c with
      | none =>
        obtain ⟨r, zs, rfl, hrs, hra⟩ := Dp.tupOf hxd
        obtain _ | ⟨h0, _ | ⟨h1, _ | _⟩⟩ := hra
        cases Dp.strOf h0
        cases Dp.intOf h1
        exact ⟨r, _, rfl, hrs, _, _, rfl, .inl ⟨rfl, rfl, rfl⟩⟩
      | some d =>
        obtain ⟨r, zs, rfl, hrs, hra⟩ := Dp.tupOf hxd
        obtain _ | ⟨h0, _ | ⟨h1, _ | ⟨h2, _ | _⟩⟩⟩ := hra
        cases Dp.strOf h0
        cases Dp.intOf h1
        exact ⟨r, _, rfl, hrs, _, _, rfl, .inr ⟨_, _, rfl, rfl, rfl, h2⟩⟩
    walk_at "go"
    intro p1 hp1
    walk_at "go"
    intro p2 hp2
    walk_at "go"
    intro p3 hp3
    have n23 : p2 ≠ p3 := ne_fresh hp3 upd_same
    have hbf : SqT K (upd (upd (upd H' p1 (.lst ys)) p2 (.tup ys)) p3 (.tup [.str "ok", .non])) p2 ys := sqT (upd_at n23 upd_same)
    have hdue : SqT K (upd (upd (upd H' p1 (.lst ys)) p2 (.tup ys)) p3 (.tup [.str "ok", .non])) p3 [.str "ok", .non] := sqT upd_same
    have s5 : Same H' (upd (upd (upd H' p1 (.lst ys)) p2 (.tup ys)) p3 (.tup [.str "ok", .non])) := same_nx (same_nx (same_nx (Same.refl H') hp1) hp2) hp3
    revert hbf hdue s5
    generalize upd (upd (upd H' p1 (.lst ys)) p2 (.tup ys)) p3 (.tup [.str "ok", .non]) = H5
    intro hbf hdue s5
    have h5 := h.same s5
    have hx5 := Dp.same s5 _ _ hxd
    have hr5 := (Keep.same s5).sq hrs
    have hbd : Dp K H5 (.ref p2) (.tuple ts) := .tup hbf (DpAll.same s5 _ _ hta)
    clear hp1 hp2 hp3 n23
    walk_at "go"
    refine i_cut (fun σ' H6 => ∃ v6, σ' = [some (.ref sc), some (.ref t), some (.ref tv), some (.ref p), some (.ref r), some (.ref p2), some v6, x7, x8, x9, none] ∧ Same H5 H6 ∧ Dp K H6 v6 (answD ts b c)) ?_ ?_
    · obtain ⟨c0, rest, rfl, hcc⟩ := hra
      walk_at "go"
      rcases hcc with ⟨rfl, rfl, rfl⟩ | ⟨d, v, rfl, rfl, rfl, hv⟩
      · walk_at "go"
        refine ⟨p, rfl, .inl ⟨kvs, .inl h5.hp⟩, ?_⟩
        walk_at "go"
        intro p7 hp7
        have s7 := same_new (o := .tup [.int 0, .int 0, .int 0, .int 0]) (Same.refl H5) hp7
        refine ⟨_, .inl ⟨kvs, .inl (b : Int), .inl (s7 _ _ h5.hp), rfl, rfl⟩, ?_⟩
        walk_at "go"
        intro p8 hp8
        have s8 := same_nx s7 (o := .tup [.str "ok", (valV kvs (.inl (b : Int))).getD (.ref p7)]) hp8
        have n78 : p7 ≠ p8 := ne_fresh hp8 upd_same
        refine ⟨_, rfl, s8, .tup (sqT upd_same) (.cons (.str _) (.cons ?_ .nil))⟩
        obtain ⟨d, e1, e2⟩ := h5.tie b hb
        rw [List.getD_eq_getElem?_getD, e1]
        rcases e2 with ⟨v, e2, hv⟩ | ⟨e2, rfl⟩
        · rw [e2] at s8 ⊢
          exact Dp.same s8 _ _ hv
        · rw [e2]
          exact .tup (sqT (upd_at n78 upd_same)) (DpAll.ints [0, 0, 0, 0])
      · walk_at "go"
        exact ⟨_, rfl, Same.refl H5, .tup hdue (.cons (.str _) (.cons .non .nil))⟩
    rintro σ' H6 ⟨v6, rfl, s6, hv6⟩
    have h6 := h5.same s6
    have hx6 := Dp.same s6 _ _ hx5
    have hb6 := Dp.same s6 _ _ hbd
    clear hbd hx5 h5 hdue
    walk_at "go"
    refine ⟨ts, b, c, h6.ht, hx6, by rw [h6.len]; exact hb, fun v H7 s7 hv => ?_⟩
    have h7 := h6.same s7
    have hx7 := Dp.same s7 _ _ hx6
    have hb7 := Dp.same s7 _ _ hb6
    have shA : Sh 4 (answD ts b c) := by
      cases c with
      | none =>
        refine Sh.tup2 (Sh.str _ (by decide +kernel)) ?_
        rw [List.getD_eq_getElem?_getD, List.getElem?_eq_getElem (by rw [h6.len]; exact hb)]
        exact (h6.rows _ (List.getElem_mem _)).sh.mono (by omega)
      | some d => exact Sh.tup2 (Sh.str _ (by decide +kernel)) Sh.none
    walk_at "go"
    refine i_neD hv (Dp.same s7 _ _ hv6) (shA.shaped (by decide)) (shA.shaped (by decide)) ?_
    rw [shA.refl]
    walk_at "go"
    refine ⟨_, hx7, ?_, fun H8 s8 => ?_⟩
    · intro a' r' e
      obtain ⟨ds, e2, hsh, _⟩ := shaped_rq (b := b) hc
      rw [e2] at e
      cases e
      exact hsh _ (by simp)
    rw [rq_ok hb hc]
    have h8 := h7.same s8
    have hx8 := Dp.same s8 _ _ hx7
    have hb8 := Dp.same s8 _ _ hb7
    walk_at "go"
    refine ⟨ts, b, c, h8.ht, hx8, by rw [h8.len]; exact hb, by rw [h8.len]; decide, fun v7 H9 s9 hv7 => ?_⟩
    have h9 := h8.same s9
    have hx9 := Dp.same s9 _ _ hx8
    have hb9 := Dp.same s9 _ _ hb8
    clear hv hv6 h8 h7 h6 hx8 hx7 hx6 hb8 hb7 hb6
    have hrows : ∀ d ∈ afterD ts b c, isRow d := by
      cases c with
      | none => exact h9.rows
      | some d =>
        intro e m
        rcases List.mem_or_eq_of_mem_set m with m | rfl
        · exact h9.rows e m
        · exact hc
    have hlen8 : (afterD ts b c).length = 8 := by
      cases c with
      | none => exact h9.len
      | some d =>
        show (ts.set b d).length = 8
        rw [List.length_set]
        exact h9.len
    walk_at "go"
    refine i_cut (fun σ' H6 => ∃ kvs', σ' = [some (.ref sc), some (.ref t), some (.ref tv), some (.ref p), some (.ref r), some (.ref p2), some v6, some v7, x8, x9, none] ∧ LwS K t l p a xs rs (k + 1) v7 (afterD ts b c) kvs' H6 ∧ Dp K H6 (.ref p2) (.tuple ts) ∧ Dp K H6 (.ref tv) (.tuple ts) ∧ Dp K H6 (.ref r) (rqD b c)) ?_ ?_
    · obtain ⟨c0, rest, rfl, hcc⟩ := hra
      have hr9 := (Keep.same (((s6.trans s7).trans s8).trans s9)).sq hr5
      walk_at "go"
      rcases hcc with ⟨rfl, rfl, rfl⟩ | ⟨d, v, rfl, rfl, rfl, hv⟩
      · walk_at "go"
        exact ⟨kvs, rfl, ⟨h9.tp, h9.ha, h9.hd, h9.ok, hv7, h9.len, h9.rows, h9.hp, Nat.le_succ_of_le h9.kl, h9.tie⟩, hb9, h9.ht, hx9⟩
      · have hv9 := Dp.same ((((s5.trans s6).trans s7).trans s8).trans s9) _ _ hv
        have hkl := h9.kl
        have kk : Keep H9 (upd H9 p (.dK (putK kvs (.inl (b : Int)) v))) := (Keep.refl H9).upd fun u e => by
          rw [h9.hp] at e
          cases e
          rfl
        have hdt := (show isRow d from hc).tup
        have goal : ∃ kvs', ([some (.ref sc), some (.ref t), some (.ref tv), some (.ref p), some (.ref r), some (.ref p2), some v6, some v7, x8, x9, none] : L2.St) = [some (.ref sc), some (.ref t), some (.ref tv), some (.ref p), some (.ref r), some (.ref p2), some v6, some v7, x8, x9, none] ∧ LwS K t l p a xs rs (k + 1) v7 (afterD ts b (some d)) kvs' (upd H9 p (.dK (putK kvs (.inl (b : Int)) v))) ∧ Dp K (upd H9 p (.dK (putK kvs (.inl (b : Int)) v))) (.ref p2) (.tuple ts) ∧ Dp K (upd H9 p (.dK (putK kvs (.inl (b : Int)) v))) (.ref tv) (.tuple ts) ∧ Dp K (upd H9 p (.dK (putK kvs (.inl (b : Int)) v))) (.ref r) (rqD b (some d)) := by
          refine ⟨_, rfl, ⟨h9.tp.put npt.symm npl.symm, upd_at nap h9.ha, DpAll.keep kk _ _ h9.hd (rqs_tup h9.ok), h9.ok, Dp.keep kk _ _ hv7 (rows_tup hrows), hlen8, hrows, upd_same, by have := length_putK kvs (.inl (b : Int)) v; omega, fun j hj => ?_⟩, Dp.keep kk _ _ hb9 (rows_tup h9.rows), Dp.keep kk _ _ h9.ht (rows_tup h9.rows), Dp.keep kk _ _ hx9 hxt⟩
          rw [valV_put]
          by_cases e : j = b
          · subst e
            rw [if_pos rfl]
            refine ⟨d, ?_, .inl ⟨v, rfl, Dp.keep kk _ _ hv9 hdt⟩⟩
            show (ts.set j d)[j]? = some d
            rw [List.getElem?_set_self (by rw [h9.len]; exact hb)]
          · rw [if_neg (by intro z; injection z with z; omega)]
            obtain ⟨d', e1, e2⟩ := h9.tie j hj
            refine ⟨d', ?_, ?_⟩
            · show (ts.set b d)[j]? = some d'
              rw [List.getElem?_set_ne (fun z => e z.symm)]
              exact e1
            · rcases e2 with ⟨v', e2, hv'⟩ | e2
              · exact .inl ⟨v', e2, Dp.keep kk _ _ hv' (h9.rows _ (List.mem_of_getElem? e1)).tup⟩
              · exact .inr e2
        walk_at "go"
        refine ⟨p, _, rfl, .inl ⟨kvs, .inl (b : Int), h9.hp, rfl, by rw [sizeLine_eq]; omega, rfl⟩, goal⟩
    rintro σ' H10 ⟨kvs', rfl, h10, hb10, ht10, hx10⟩
    clear h9 hb9 hx9 hv7
    have shT := rows_sh hrows
    have shB := rows_sh h.rows
    walk_at "go"
    refine lc_rng (fun k acc H' => Same H10 H' ∧ DpAll K H' acc ((afterD ts b c).take k)) ?_ ?_ ?_
    · intro D hD
      exact ⟨same_new (Same.refl H10) hD, .nil⟩
    · rintro k D acc H' hk hl hD hD' ⟨s, ha⟩
      have h' := h10.same s
      walk_at "go"
      refine ⟨p, rfl, .inl ⟨kvs', .inl h'.hp⟩, ?_⟩
      walk_at "go"
      intro p7 hp7
      have s7 := same_new (o := .tup [.int 0, .int 0, .int 0, .int 0]) (Same.refl H') hp7
      have h7 := h'.same s7
      refine ⟨_, .inl ⟨kvs', .inl (0 + (k : Int)), .inl h7.hp, rfl, rfl⟩, ?_⟩
      have hD7 := s7 _ _ hD'
      refine lc_put hD7 hl (by simp at hk; omega) ⟨same_new (s.trans s7) hD, ?_⟩
      have kk : Keep (upd H' p7 (.tup [.int 0, .int 0, .int 0, .int 0])) (upd (upd H' p7 (.tup [.int 0, .int 0, .int 0, .int 0])) D (.lst (acc ++ [(valV kvs' (.inl (0 + (k : Int)))).getD (.ref p7)]))) := keep_lst hD7
      obtain ⟨d, e1, e2⟩ := h7.tie k (by simpa using hk)
      rw [Int.zero_add] at kk
      rw [List.take_succ, e1, Int.zero_add]
      refine DpAll.app (DpAll.keep ((Keep.same s7).trans kk) _ _ ha (tupAll_take _ (rows_tup hrows))) (.cons ?_ .nil)
      rcases e2 with ⟨v, e2, hv⟩ | ⟨e2, rfl⟩
      · rw [e2] at kk ⊢
        exact Dp.keep kk _ _ hv (hrows _ (List.mem_of_getElem? e1)).tup
      · rw [e2] at kk ⊢
        exact .tup (kk.sq (sqT upd_same)) (DpAll.ints [0, 0, 0, 0])
    · rintro D acc H11 hl hD hD' ⟨s11, ha⟩
      walk_at "go"
      intro p12 hp12
      have s12 := same_nx s11 (o := .tup acc) hp12
      have h12 := h10.same s12
      rw [List.take_of_length_le (by rw [hlen8]; decide)] at ha
      refine i_neD h12.ht (Dp.tup (sqT upd_same) (DpAll.same (same_new (Same.refl H11) hp12) _ _ ha)) (shT.shaped (by decide)) (shT.shaped (by decide)) ?_
      rw [shT.refl]
      walk_at "go"
      refine i_neD (Dp.same s12 _ _ ht10) (Dp.same s12 _ _ hb10) (shB.shaped (by decide)) (shB.shaped (by decide)) ?_
      rw [shB.refl]
      have hx12 := Dp.same s12 _ _ hx10
      revert h12 hx12
      generalize upd H11 p12 (.tup acc) = H12
      intro h12 hx12
      walk_at "go"
      refine ⟨t, l, b, c, rfl, h12.tp, hx12, hc, fun v8 es H13 hT13 st13 hv8 hse => ?_⟩
      have h13 := h12.stays hT13 st13 nat npt
      walk_at "go"
      refine ⟨_, hv8, fun a r e => hse a (by cases e; simp), fun H14 s14 => ?_⟩
      have h14 := h13.same s14
      walk_at "go"
      refine i_isiBool (.bl _) ?_
      walk_at "go"
      refine ⟨es, Dp.same s14 _ _ hv8, fun a r e => hse a (by rw [e]; simp), fun H15 s15 => ?_⟩
      walk_at "go"
      refine i_iteF (by simp) ?_
      refine i_next ⟨_, _, _, _, _, _, _, _, _, rfl, h14.same s15⟩
  · rintro σ' H' ⟨vt, ts, kvs, x4, x5, x6, x7, x8, x9, rfl, h⟩
    walk_at "go"
    refine ⟨.none, .non, (fun _ _ z => nomatch z), fun H1 s1 => ?_⟩
    walk_at "go"
    intro p1 hp1
    walk_at "go"
    refine ⟨.list [.str "read", .int 0], .lst (sqL upd_same) (.cons (.str _) (.cons (.int _) .nil)), (fun _ _ z => nomatch z), fun H1 s1 => ?_⟩
    walk_at "go"
    exact q _
def top (i : Nat) : Stmt := PySem.Challenge.pw_ringbound_k13_requests_on_a_plain_table.main.body.getD i (.Pass ⟨0, 0, 0, 0⟩)
abbrev s_new_table : Stmt := top 7
abbrev s_law_next : Stmt := top 11
abbrev s_law_requests : Stmt := top 12
abbrev s_answer_of : Stmt := top 8
abbrev s_is_integer : Stmt := top 3
abbrev s_is_block : Stmt := top 4
abbrev s_are_values : Stmt := top 5
abbrev s_is_request : Stmt := top 6
abbrev s_after_request : Stmt := top 9
abbrev s_law_bent : Stmt := top 14
abbrev s_law_integer : Stmt := top 15
abbrev s_law_due : Stmt := top 16
abbrev s_law : Stmt := top 17
/-- what the top has left of the names that the walks ask -/
structure Tx (K : PySem.W.Frag) (mg : Str → Option Value) : Prop where
  b_abs : mg "abs" = none
  b_all : mg "all" = none
  b_bool : mg "bool" = none
  b_int : mg "int" = none
  b_isinstance : mg "isinstance" = none
  b_len : mg "len" = none
  b_list : mg "list" = none
  b_range : mg "range" = none
  b_tuple : mg "tuple" = none
  c_BLOCKS : ∃ t, mg "BLOCKS" = some (.int 8 t)
  c_CELLS : ∃ t, mg "CELLS" = some (.int 4 t)
  g__law_bent : mg "_law_bent" = some (.ref (He.ga K "_law_bent"))
  g__law_due : mg "_law_due" = some (.ref (He.ga K "_law_due"))
  g__law_integer : mg "_law_integer" = some (.ref (He.ga K "_law_integer"))
  g__law_next : mg "_law_next" = some (.ref (He.ga K "_law_next"))
  g__law_requests : mg "_law_requests" = some (.ref (He.ga K "_law_requests"))
  g_after_request : mg "after_request" = some (.ref (He.ga K "after_request"))
  g_answer_of : mg "answer_of" = some (.ref (He.ga K "answer_of"))
  g_are_values : mg "are_values" = some (.ref (He.ga K "are_values"))
  g_is_block : mg "is_block" = some (.ref (He.ga K "is_block"))
  g_is_integer : mg "is_integer" = some (.ref (He.ga K "is_integer"))
  g_is_request : mg "is_request" = some (.ref (He.ga K "is_request"))
  g_new_table : mg "new_table" = some (.ref (He.ga K "new_table"))
section
variable {P : Program} {w : World} {K : PySem.W.Frag} {mg : Str → Option Value} {base : Heap}
theorem sc_new_table : FnScope N_new_table [] (defScope s_new_table) := ⟨rfl, rfl, rfl, by decide +kernel, rfl, by decide +kernel, by decide +kernel⟩
theorem ok_new_table (T : Tx K mg) (hF : ∃ fd, FunD K "new_table" "new_table" (defArgs s_new_table) (defBody s_new_table) (defScope s_new_table) [] [] (He.fAd K ("new_table", none)) fd)  : Okd P w K mg base 1 (He.fAd K ("new_table", none)) [] (sp_new_table K) := by
  refine Okd.of hF sc_new_table (fun vs H Q E h => match vs, h with | [], _ => rfl) (fun _ _ _ _ _ _ us hl => match us, hl with | [], _ => rfl) (t := t_new_table K) (fun cdv A outer s H E hr => ?_) (fun vs H Q E h => match vs, h with | [], h => pure_new_table h)
  have nd := sc_new_table.nd
  exact (pss_one (ps_ret (pe_callTy cr_tup (by rfl) T.b_tuple (by decide +kernel) (pa_cons (pe_lc (own := [("_", 0)]) (g := gName 0) (tt := tYes) (te := tOp (rMulA K) (tTup (tCons (tC (.int 0)) (tNil))) (tC (.int 4))) rfl nd (pi_range1 rfl T.b_range (pa_cons (pe_gint rfl T.c_BLOCKS) pa_nil)) (blkOk_by (own := [("_", 0)]) (N := N_new_table) (sc := defScope s_new_table) (by decide +kernel)) (fun _ _ _ _ _ => (pg_name (i := 0) nd rfl (Or.inl rfl))) (fun _ _ _ _ _ => pts_nil) (fun _ _ _ _ _ => (pe_op op_mulA (pe_tup (pa_cons pe_int pa_nil)) (pe_gint rfl T.c_CELLS)))) pa_nil))))
theorem sc_law_next : FnScope N_law_next ["_law_tape", "_law_many"] (defScope s_law_next) := ⟨rfl, rfl, rfl, by decide +kernel, rfl, by decide +kernel, by decide +kernel⟩
theorem ok_law_next (T : Tx K mg) (hF : ∃ fd, FunD K "_law_next" "_law_next" (defArgs s_law_next) (defBody s_law_next) (defScope s_law_next) [] [] (He.fAd K ("_law_next", none)) fd)  : Okd P w K mg base 1 (He.fAd K ("_law_next", none)) ["_law_tape", "_law_many"] (sp_law_next K) := by
  refine Okd.of hF sc_law_next (fun vs H Q E h => match vs, h with | [_, _], _ => rfl) (fun _ _ _ _ _ _ us hl => match us, hl with | [_, _], _ => rfl) (t := t_law_next K) (fun cdv A outer s H E hr => ?_) (fun vs H Q E h => match vs, h with | [a0, a1], h => pure_law_next h)
  have nd := sc_law_next.nd
  exact (pss_cons (ps_set (i := 2) nd rfl (Or.inl rfl) (pe_ix ix_seq (pv 0) pe_int (fun _ _ => rfl)))
  (pss_cons (ps_if (pt_cmpR op_gtI (pv 2) pe_int (nomark _)) (pss_cons (ps_asg (pe_op op_divN (pv 2) (pv 1)) (pg_sub (pv 0) pe_int set_list))
  (pss_one (ps_ret (pe_op op_modI (pe_callTy cr_int (by rfl) T.b_int (by decide +kernel) (pa_cons (pv 2) pa_nil)) (pv 1))))) pss_nil)
  (pss_cons (ps_set (i := 3) nd rfl (Or.inl rfl) pe_int)
  (pss_cut (ps_if (pt_cmpR op_ltI (pe_ix ix_seq (pv 0) pe_int (fun _ _ => rfl)) (pe_callB cr_len (by rfl) T.b_len (by decide +kernel) (pa_cons (pe_ix ix_seq (pv 0) pe_int (fun _ _ => rfl)) pa_nil)) (nomark _)) (pss_cons (ps_set (i := 3) nd rfl (Or.inl rfl) (pe_callB cr_abs (by rfl) T.b_abs (by decide +kernel) (pa_cons (pe_ix ix_seq (pe_ix ix_seq (pv 0) pe_int (fun _ _ => rfl)) (pe_ix ix_seq (pv 0) pe_int (fun _ _ => rfl)) (fun _ _ => rfl)) pa_nil)))
  (pss_one (ps_augS (pv 0) pe_int get_list pe_int ip_add set_list))) pss_nil)
  (pss_cons (ps_if (pt_cmpR op_geI (pv 3) (pe_op op_powI pe_int pe_int) (nomark _)) (pss_cons (ps_asg (pe_op op_divN (pv 3) (pv 1)) (pg_sub (pv 0) pe_int set_list))
  (pss_one (ps_ret (pe_op op_modI (pe_callTy cr_int (by rfl) T.b_int (by decide +kernel) (pa_cons (pv 3) pa_nil)) (pv 1))))) pss_nil)
  (pss_cons (ps_asg (pe_op op_modI (pe_callTy cr_int (by rfl) T.b_int (by decide +kernel) (pa_cons (pe_op op_addA (pe_op op_addA (pe_op op_mulA (pe_ix ix_seq (pv 0) pe_int (fun _ _ => rfl)) pe_int) (pe_op op_mulA (pv 3) pe_int)) pe_int) pa_nil)) pe_int) (pg_sub (pv 0) pe_int set_list))
  (pss_one (ps_ret (pe_op op_modI (pe_callTy cr_int (by rfl) T.b_int (by decide +kernel) (pa_cons (pe_op op_divN (pe_op op_modI (pe_op op_mulA (pe_ix ix_seq (pv 0) pe_int (fun _ _ => rfl)) pe_int) pe_int) pe_int) pa_nil)) (pv 1))))))))))
theorem sc_law_requests : FnScope N_law_requests ["_law_tape", "_law_many"] (defScope s_law_requests) := ⟨rfl, rfl, rfl, by decide +kernel, rfl, by decide +kernel, by decide +kernel⟩
theorem ok_law_requests (T : Tx K mg) (hF : ∃ fd, FunD K "_law_requests" "_law_requests" (defArgs s_law_requests) (defBody s_law_requests) (defScope s_law_requests) [] [] (He.fAd K ("_law_requests", none)) fd) (h_law_next : Okd P w K mg base 1 (He.fAd K ("_law_next", none)) ["_law_tape", "_law_many"] (sp_law_next K)) : Okd P w K mg base 2 (He.fAd K ("_law_requests", none)) ["_law_tape", "_law_many"] (sp_law_requests K) := by
  obtain ⟨fd_law_next, G_law_next, b_law_next, kp_law_next, _⟩ := h_law_next
  refine Okd.of hF sc_law_requests (fun vs H Q E h => match vs, h with | [_, _], _ => rfl) (fun _ _ _ _ _ _ us hl => match us, hl with | [_, _], _ => rfl) (t := t_law_requests K) (fun cdv A outer s H E hr => ?_) (fun vs H Q E h => match vs, h with | [a0, a1], h => pure_law_requests h)
  have nd := sc_law_requests.nd
  exact (pss_cons (ps_set (i := 2) nd rfl (Or.inl rfl) (pe_lst pa_nil))
  (pss_cons (ps_for (passes_of rfl) rfl (pi_range1 rfl T.b_range (pa_cons (pv 1) pa_nil)) (pg_name (i := 3) nd rfl (Or.inl rfl)) (pss_cons (ps_set (i := 4) nd rfl (Or.inl rfl) (pe_call G_law_next (hr.mono (by decide)) rfl T.g__law_next kp_law_next b_law_next .nil passL (pa_cons (pv 0) (pa_cons (pe_ix ix_seq (pe_tup (pa_cons pe_int (pa_cons pe_int pa_nil))) (pe_call G_law_next (hr.mono (by decide)) rfl T.g__law_next kp_law_next b_law_next .nil passL (pa_cons (pv 0) (pa_cons pe_int pa_nil))) (fun _ _ => rfl)) pa_nil))))
  (pss_one (ps_if (pt_cmpR (op_eqD hr.units) (pe_call G_law_next (hr.mono (by decide)) rfl T.g__law_next kp_law_next b_law_next .nil passL (pa_cons (pv 0) (pa_cons pe_int pa_nil))) pe_int (nomark _)) (pss_one (ps_expr (pe_bm PySem.F.plainAttrs_list PySem.F.slot_list_append PySem.F.type_list_append mt_append (pv 2) (pa_cons (pe_tup (pa_cons pe_str (pa_cons (pv 4) pa_nil))) pa_nil)))) (pss_one (ps_expr (pe_bm PySem.F.plainAttrs_list PySem.F.slot_list_append PySem.F.type_list_append mt_append (pv 2) (pa_cons (pe_tup (pa_cons pe_str (pa_cons (pv 4) (pa_cons (pe_callTy cr_tup (by rfl) T.b_tuple (by decide +kernel) (pa_cons (pe_lc (own := [("_law_k", 5)]) (g := gName 5) (tt := tYes) (te := tOp (rAddA K) (tC (.int 1)) (tCall (sp_law_next K) [] E0 (tCons (tVar 0) (tCons (tC (.int 9)) (tNil))))) rfl nd (pi_range1 rfl T.b_range (pa_cons pe_int pa_nil)) (blkOk_by (own := [("_law_k", 5)]) (N := N_law_requests) (sc := defScope s_law_requests) (by decide +kernel)) (fun _ _ _ _ _ => (pg_name (i := 5) nd rfl (Or.inl rfl))) (fun _ _ _ _ _ => pts_nil) (fun _ _ _ _ _ => (pe_op op_addA pe_int (pe_call G_law_next (hr.mono (by decide)) rfl T.g__law_next kp_law_next b_law_next .nil passL (pa_cons (pv 0) (pa_cons pe_int pa_nil)))))) pa_nil)) pa_nil)))) pa_nil))))))))
  (pss_one (ps_ret (pv 2)))))
theorem sc_answer_of : FnScope N_answer_of ["table", "request"] (defScope s_answer_of) := ⟨rfl, rfl, rfl, by decide +kernel, rfl, by decide +kernel, by decide +kernel⟩
theorem ok_answer_of (T : Tx K mg) (hF : ∃ fd, FunD K "answer_of" "answer_of" (defArgs s_answer_of) (defBody s_answer_of) (defScope s_answer_of) [] [] (He.fAd K ("answer_of", none)) fd)  : Okd P w K mg base 1 (He.fAd K ("answer_of", none)) ["table", "request"] (sp_answer_of K) := by
  refine Okd.of hF sc_answer_of (fun vs H Q E h => match vs, h with | [_, _], _ => rfl) (fun _ _ _ _ _ _ us hl => match us, hl with | [_, _], _ => rfl) (t := t_answer_of K) (fun cdv A outer s H E hr => ?_) (fun vs H Q E h => match vs, h with | [a0, a1], h => pure_answer_of h)
  have nd := sc_answer_of.nd
  exact (pss_cons (ps_if (pt_cmpR (op_eqD hr.units) (pe_ix ix_seq (pv 1) pe_int (fun _ _ => rfl)) pe_str (nomark _)) (pss_one (ps_ret (pe_tup (pa_cons pe_str (pa_cons (pe_ix ix_seq (pv 0) (pe_ix ix_seq (pv 1) pe_int (fun _ _ => rfl)) (fun _ _ => rfl)) pa_nil))))) pss_nil)
  (pss_one (ps_ret (pe_tup (pa_cons pe_str (pa_cons pe_non pa_nil))))))
theorem sc_is_integer : FnScope N_is_integer ["value"] (defScope s_is_integer) := ⟨rfl, rfl, rfl, by decide +kernel, rfl, by decide +kernel, by decide +kernel⟩
theorem ok_is_integer (T : Tx K mg) (hF : ∃ fd, FunD K "is_integer" "is_integer" (defArgs s_is_integer) (defBody s_is_integer) (defScope s_is_integer) [] [] (He.fAd K ("is_integer", none)) fd)  : Okd P w K mg base 1 (He.fAd K ("is_integer", none)) ["value"] (sp_is_integer K) := by
  refine Okd.of hF sc_is_integer (fun vs H Q E h => match vs, h with | [_], _ => rfl) (fun _ _ _ _ _ _ us hl => match us, hl with | [_], _ => rfl) (t := t_is_integer K) (fun cdv A outer s H E hr => ?_) (fun vs H Q E h => match vs, h with | [a0], h => pure_is_integer h)
  have nd := sc_is_integer.nd
  exact (pss_one (ps_ret (pe_and (pe_callB cr_isi (by rfl) T.b_isinstance (by decide +kernel) (pa_cons (pv 0) (pa_cons (pe_bltn (v := .ty "int") (by rfl) T.b_int (by decide +kernel) rfl) pa_nil))) (pe_one (pe_not (pe_callB cr_isi (by rfl) T.b_isinstance (by decide +kernel) (pa_cons (pv 0) (pa_cons (pe_bltn (v := .ty "bool") (by rfl) T.b_bool (by decide +kernel) rfl) pa_nil))))))))
theorem sc_is_block : FnScope N_is_block ["value"] (defScope s_is_block) := ⟨rfl, rfl, rfl, by decide +kernel, rfl, by decide +kernel, by decide +kernel⟩
theorem ok_is_block (T : Tx K mg) (hF : ∃ fd, FunD K "is_block" "is_block" (defArgs s_is_block) (defBody s_is_block) (defScope s_is_block) [] [] (He.fAd K ("is_block", none)) fd) (h_is_integer : Okd P w K mg base 1 (He.fAd K ("is_integer", none)) ["value"] (sp_is_integer K)) : Okd P w K mg base 2 (He.fAd K ("is_block", none)) ["value"] (sp_is_block K) := by
  obtain ⟨fd_is_integer, G_is_integer, b_is_integer, kp_is_integer, _⟩ := h_is_integer
  refine Okd.of hF sc_is_block (fun vs H Q E h => match vs, h with | [_], _ => rfl) (fun _ _ _ _ _ _ us hl => match us, hl with | [_], _ => rfl) (t := t_is_block K) (fun cdv A outer s H E hr => ?_) (fun vs H Q E h => match vs, h with | [a0], h => pure_is_block h)
  have nd := sc_is_block.nd
  exact (pss_one (ps_ret (pe_and (pe_call G_is_integer (hr.mono (by decide)) rfl T.g_is_integer kp_is_integer b_is_integer .nil passL (pa_cons (pv 0) pa_nil)) (pe_one (pe_chain op_leI op_ltI pe_int (pv 0) (pe_gint rfl T.c_BLOCKS))))))
theorem sc_are_values : FnScope N_are_values ["value"] (defScope s_are_values) := ⟨rfl, rfl, rfl, by decide +kernel, rfl, by decide +kernel, by decide +kernel⟩
theorem ok_are_values (T : Tx K mg) (hF : ∃ fd, FunD K "are_values" "are_values" (defArgs s_are_values) (defBody s_are_values) (defScope s_are_values) [] [] (He.fAd K ("are_values", none)) fd) (h_is_integer : Okd P w K mg base 1 (He.fAd K ("is_integer", none)) ["value"] (sp_is_integer K)) : Okd P w K mg base 2 (He.fAd K ("are_values", none)) ["value"] (sp_are_values K) := by
  obtain ⟨fd_is_integer, G_is_integer, b_is_integer, kp_is_integer, _⟩ := h_is_integer
  refine Okd.of hF sc_are_values (fun vs H Q E h => match vs, h with | [_], _ => rfl) (fun _ _ _ _ _ _ us hl => match us, hl with | [_], _ => rfl) (t := t_are_values K) (fun cdv A outer s H E hr => ?_) (fun vs H Q E h => match vs, h with | [a0], h => pure_are_values h)
  have nd := sc_are_values.nd
  exact (pss_one (ps_ret (pe_and (pe_callB cr_isi (by rfl) T.b_isinstance (by decide +kernel) (pa_cons (pv 0) (pa_cons (pe_bltn (v := .ty "tuple") (by rfl) T.b_tuple (by decide +kernel) rfl) pa_nil))) (pe_and (pe_cmpR (op_eqD hr.units) (pe_callB cr_len (by rfl) T.b_len (by decide +kernel) (pa_cons (pv 0) pa_nil)) (pe_gint rfl T.c_CELLS) (nomark _)) (pe_one (pe_callB (cr_all rfl) (by rfl) T.b_all (by decide +kernel) (pa_cons (pe_lc (own := [("one", 1)]) (g := gName 1) (tt := tYes) (te := tCall (sp_is_integer K) [] E0 (tCons (tVar 1) (tNil))) rfl nd (pi_tup (pv 0)) (blkOk_by (own := [("one", 1)]) (N := N_are_values) (sc := defScope s_are_values) (by decide +kernel)) (fun _ _ _ _ _ => (pg_name (i := 1) nd rfl (Or.inl rfl))) (fun _ _ _ _ _ => pts_nil) (fun _ _ _ _ _ => (pe_call G_is_integer (hr.mono (by decide)) rfl T.g_is_integer kp_is_integer b_is_integer .nil passL (pa_cons (pv 1) pa_nil)))) pa_nil)))))))
theorem sc_is_request : FnScope N_is_request ["value"] (defScope s_is_request) := ⟨rfl, rfl, rfl, by decide +kernel, rfl, by decide +kernel, by decide +kernel⟩
theorem ok_is_request (T : Tx K mg) (hF : ∃ fd, FunD K "is_request" "is_request" (defArgs s_is_request) (defBody s_is_request) (defScope s_is_request) [] [] (He.fAd K ("is_request", none)) fd) (h_is_block : Okd P w K mg base 2 (He.fAd K ("is_block", none)) ["value"] (sp_is_block K)) (h_are_values : Okd P w K mg base 2 (He.fAd K ("are_values", none)) ["value"] (sp_are_values K)) : Okd P w K mg base 3 (He.fAd K ("is_request", none)) ["value"] (sp_is_request K) := by
  obtain ⟨fd_is_block, G_is_block, b_is_block, kp_is_block, _⟩ := h_is_block
  obtain ⟨fd_are_values, G_are_values, b_are_values, kp_are_values, _⟩ := h_are_values
  refine Okd.of hF sc_is_request (fun vs H Q E h => match vs, h with | [_], _ => rfl) (fun _ _ _ _ _ _ us hl => match us, hl with | [_], _ => rfl) (t := t_is_request K) (fun cdv A outer s H E hr => ?_) (fun vs H Q E h => match vs, h with | [a0], h => pure_is_request h)
  have nd := sc_is_request.nd
  exact (pss_cons (ps_if (PW.pt (pw_or (pt_not (pt_tru (pe_callB cr_isi (by rfl) T.b_isinstance (by decide +kernel) (pa_cons (pv 0) (pa_cons (pe_bltn (v := .ty "tuple") (by rfl) T.b_tuple (by decide +kernel) rfl) pa_nil))))) (pw_or (pt_cmpR op_ltI (pe_callB cr_len (by rfl) T.b_len (by decide +kernel) (pa_cons (pv 0) pa_nil)) pe_int (nomark _)) (pw_or1 (pt_not (pt_tru (pe_call G_is_block (hr.mono (by decide)) rfl T.g_is_block kp_is_block b_is_block .nil passL (pa_cons (pe_ix ix_seq (pv 0) pe_int (fun _ _ => rfl)) pa_nil)))))))) (pss_one (ps_ret pe_bl)) pss_nil)
  (pss_cons (ps_if (pt_cmpR (op_eqD hr.units) (pe_ix ix_seq (pv 0) pe_int (fun _ _ => rfl)) pe_str (nomark _)) (pss_one (ps_ret (pe_cmpR (op_eqD hr.units) (pe_callB cr_len (by rfl) T.b_len (by decide +kernel) (pa_cons (pv 0) pa_nil)) pe_int (nomark _)))) pss_nil)
  (pss_one (ps_ret (pe_and (pe_cmpR (op_eqD hr.units) (pe_ix ix_seq (pv 0) pe_int (fun _ _ => rfl)) pe_str (nomark _)) (pe_and (pe_cmpR (op_eqD hr.units) (pe_callB cr_len (by rfl) T.b_len (by decide +kernel) (pa_cons (pv 0) pa_nil)) pe_int (nomark _)) (pe_one (pe_call G_are_values (hr.mono (by decide)) rfl T.g_are_values kp_are_values b_are_values .nil passL (pa_cons (pe_ix ix_seq (pv 0) pe_int (fun _ _ => rfl)) pa_nil)))))))))
theorem sc_after_request : FnScope N_after_request ["table", "request"] (defScope s_after_request) := ⟨rfl, rfl, rfl, by decide +kernel, rfl, by decide +kernel, by decide +kernel⟩
theorem ok_after_request (T : Tx K mg) (hF : ∃ fd, FunD K "after_request" "after_request" (defArgs s_after_request) (defBody s_after_request) (defScope s_after_request) [] [] (He.fAd K ("after_request", none)) fd)  : Okd P w K mg base 1 (He.fAd K ("after_request", none)) ["table", "request"] (sp_after_request K) := by
  refine Okd.of hF sc_after_request (fun vs H Q E h => match vs, h with | [_, _], _ => rfl) (fun _ _ _ _ _ _ us hl => match us, hl with | [_, _], _ => rfl) (t := t_after_request K) (fun cdv A outer s H E hr => ?_) (fun vs H Q E h => match vs, h with | [a0, a1], h => pure_after_request h)
  have nd := sc_after_request.nd
  exact (pss_cons (ps_if (pt_cmpR (op_eqD hr.units) (pe_ix ix_seq (pv 1) pe_int (fun _ _ => rfl)) pe_str (nomark _)) (pss_one (ps_ret (pv 0))) pss_nil)
  (pss_one (ps_ret (pe_op op_addA (pe_op op_addA (pe_slice sl_A (pv 0) po_none (po_some (pe_ix ix_seq (pv 1) pe_int (fun _ _ => rfl)))) (pe_tup (pa_cons (pe_ix ix_seq (pv 1) pe_int (fun _ _ => rfl)) pa_nil))) (pe_slice sl_A (pv 0) (po_some (pe_op op_addA (pe_ix ix_seq (pv 1) pe_int (fun _ _ => rfl)) pe_int)) po_none)))))
theorem sc_law_bent : FnScope N_law_bent ["_law_tape", "_law_request"] (defScope s_law_bent) := ⟨rfl, rfl, rfl, by decide +kernel, rfl, by decide +kernel, by decide +kernel⟩
theorem ok_law_bent (T : Tx K mg) (hF : ∃ fd, FunD K "_law_bent" "_law_bent" (defArgs s_law_bent) (defBody s_law_bent) (defScope s_law_bent) [] [] (He.fAd K ("_law_bent", none)) fd) (h_law_next : Okd P w K mg base 1 (He.fAd K ("_law_next", none)) ["_law_tape", "_law_many"] (sp_law_next K)) : Okd P w K mg base 2 (He.fAd K ("_law_bent", none)) ["_law_tape", "_law_request"] (sp_law_bent K) := by
  obtain ⟨fd_law_next, G_law_next, b_law_next, kp_law_next, _⟩ := h_law_next
  refine Okd.of hF sc_law_bent (fun vs H Q E h => match vs, h with | [_, _], _ => rfl) (fun _ _ _ _ _ _ us hl => match us, hl with | [_, _], _ => rfl) (t := t_law_bent K) (fun cdv A outer s H E hr => ?_) (fun vs H Q E h => match vs, h with | [a0, a1], h => pure_law_bent h)
  have nd := sc_law_bent.nd
  exact (pss_cons (ps_set (i := 2) nd rfl (Or.inl rfl) (pe_callTy cr_list (by rfl) T.b_list (by decide +kernel) (pa_cons (pv 1) pa_nil)))
  (pss_cons (ps_set (i := 3) nd rfl (Or.inl rfl) (pe_call G_law_next (hr.mono (by decide)) rfl T.g__law_next kp_law_next b_law_next .nil passL (pa_cons (pv 0) (pa_cons pe_int pa_nil))))
  (pss_cut (ps_if (pt_cmpR (op_eqD hr.units) (pv 3) pe_int (nomark _)) (pss_one (ps_asg (pe_ix ix_seq (pe_tup (pa_cons pe_str (pa_cons pe_non (pa_cons pe_str (pa_cons pe_str pa_nil))))) (pe_call G_law_next (hr.mono (by decide)) rfl T.g__law_next kp_law_next b_law_next .nil passL (pa_cons (pv 0) (pa_cons pe_int pa_nil))) (fun _ _ => rfl)) (pg_sub (pv 2) pe_int set_list))) pss_nil)
  (pss_cut (ps_if (pt_cmpR (op_eqD hr.units) (pv 3) pe_int (nomark _)) (pss_one (ps_asg (pe_ix ix_seq (pe_tup (pa_cons (pe_un un_negI pe_int) (pa_cons pe_int (pa_cons pe_bl (pa_cons pe_non (pa_cons pe_str (pa_cons pe_int pa_nil))))))) (pe_call G_law_next (hr.mono (by decide)) rfl T.g__law_next kp_law_next b_law_next .nil passL (pa_cons (pv 0) (pa_cons pe_int pa_nil))) (fun _ _ => rfl)) (pg_sub (pv 2) pe_int set_list))) pss_nil)
  (pss_cut (ps_if (pt_cmpR (op_eqD hr.units) (pv 3) pe_int (nomark _)) (pss_one (ps_expr (pe_bm PySem.F.plainAttrs_list PySem.F.slot_list_append PySem.F.type_list_append mt_append (pv 2) (pa_cons (pe_tup (pa_cons pe_int (pa_cons pe_int (pa_cons pe_int (pa_cons pe_int pa_nil))))) pa_nil)))) pss_nil)
  (pss_cut (ps_if (pt_cmpR (op_eqD hr.units) (pv 3) pe_int (nomark _)) (pss_one (ps_expr (pe_bm0 PySem.F.plainAttrs_list PySem.F.slot_list_pop PySem.F.type_list_pop mt_pop (pv 2)))) pss_nil)
  (pss_cut (ps_if (pt_cmpR (op_eqD hr.units) (pv 3) pe_int (nomark _)) (pss_one (ps_asg (pe_ix ix_seq (pe_tup (pa_cons (pe_tup (pa_cons pe_int (pa_cons pe_int (pa_cons pe_int pa_nil)))) (pa_cons (pe_lst (pa_cons pe_int (pa_cons pe_int (pa_cons pe_int (pa_cons pe_int pa_nil))))) (pa_cons (pe_tup (pa_cons pe_int (pa_cons pe_int (pa_cons pe_int (pa_cons pe_bl pa_nil))))) (pa_cons (pe_tup (pa_cons pe_int (pa_cons pe_int (pa_cons pe_int (pa_cons pe_non pa_nil))))) (pa_cons pe_int (pa_cons (pe_tup (pa_cons pe_int (pa_cons (pe_un un_negI pe_int) (pa_cons (pe_op op_powI pe_int pe_int) (pa_cons pe_int pa_nil))))) pa_nil))))))) (pe_call G_law_next (hr.mono (by decide)) rfl T.g__law_next kp_law_next b_law_next .nil passL (pa_cons (pv 0) (pa_cons pe_int pa_nil))) (fun _ _ => rfl)) (pg_sub (pv 2) (pe_un un_negI pe_int) set_list))) pss_nil)
  (pss_one (ps_ret (pe_callTy cr_tup (by rfl) T.b_tuple (by decide +kernel) (pa_cons (pv 2) pa_nil)))))))))))
theorem sc_law_integer : FnScope N_law_integer ["_law_value"] (defScope s_law_integer) := ⟨rfl, rfl, rfl, by decide +kernel, rfl, by decide +kernel, by decide +kernel⟩
theorem ok_law_integer (T : Tx K mg) (hF : ∃ fd, FunD K "_law_integer" "_law_integer" (defArgs s_law_integer) (defBody s_law_integer) (defScope s_law_integer) [] [] (He.fAd K ("_law_integer", none)) fd)  : Okd P w K mg base 1 (He.fAd K ("_law_integer", none)) ["_law_value"] (sp_law_integer K) := by
  refine Okd.of hF sc_law_integer (fun vs H Q E h => match vs, h with | [_], _ => rfl) (fun _ _ _ _ _ _ us hl => match us, hl with | [_], _ => rfl) (t := t_law_integer K) (fun cdv A outer s H E hr => ?_) (fun vs H Q E h => match vs, h with | [a0], h => pure_law_integer h)
  have nd := sc_law_integer.nd
  exact (pss_one (ps_ret (pe_and (pe_callB cr_isi (by rfl) T.b_isinstance (by decide +kernel) (pa_cons (pv 0) (pa_cons (pe_bltn (v := .ty "int") (by rfl) T.b_int (by decide +kernel) rfl) pa_nil))) (pe_one (pe_not (pe_callB cr_isi (by rfl) T.b_isinstance (by decide +kernel) (pa_cons (pv 0) (pa_cons (pe_bltn (v := .ty "bool") (by rfl) T.b_bool (by decide +kernel) rfl) pa_nil))))))))
theorem sc_law_due : FnScope N_law_due ["_law_parts"] (defScope s_law_due) := ⟨rfl, rfl, rfl, by decide +kernel, rfl, by decide +kernel, by decide +kernel⟩
theorem ok_law_due (T : Tx K mg) (hF : ∃ fd, FunD K "_law_due" "_law_due" (defArgs s_law_due) (defBody s_law_due) (defScope s_law_due) [] [] (He.fAd K ("_law_due", none)) fd) (h_law_integer : Okd P w K mg base 1 (He.fAd K ("_law_integer", none)) ["_law_value"] (sp_law_integer K)) : Okd P w K mg base 2 (He.fAd K ("_law_due", none)) ["_law_parts"] (sp_law_due K) := by
  obtain ⟨fd_law_integer, G_law_integer, b_law_integer, kp_law_integer, _⟩ := h_law_integer
  refine Okd.of hF sc_law_due (fun vs H Q E h => match vs, h with | [_], _ => rfl) (fun _ _ _ _ _ _ us hl => match us, hl with | [_], _ => rfl) (t := t_law_due K) (fun cdv A outer s H E hr => ?_) (fun vs H Q E h => match vs, h with | [a0], h => pure_law_due h)
  have nd := sc_law_due.nd
  exact (pss_cons (ps_if (PW.pt (pw_or (pt_cmpR op_ltI (pe_callB cr_len (by rfl) T.b_len (by decide +kernel) (pa_cons (pv 0) pa_nil)) pe_int (nomark _)) (pw_or (pt_not (pt_tru (pe_call G_law_integer (hr.mono (by decide)) rfl T.g__law_integer kp_law_integer b_law_integer .nil passL (pa_cons (pe_ix ix_seq (pv 0) pe_int (fun _ _ => rfl)) pa_nil)))) (pw_or1 (pt_not (pt_chain op_leI op_leI pe_int (pe_ix ix_seq (pv 0) pe_int (fun _ _ => rfl)) pe_int)))))) (pss_one (ps_ret pe_bl)) pss_nil)
  (pss_cons (ps_if (pt_cmpR (op_eqD hr.units) (pe_ix ix_seq (pv 0) pe_int (fun _ _ => rfl)) pe_str (nomark _)) (pss_one (ps_ret (pe_cmpR (op_eqD hr.units) (pe_callB cr_len (by rfl) T.b_len (by decide +kernel) (pa_cons (pv 0) pa_nil)) pe_int (nomark _)))) pss_nil)
  (pss_cons (ps_if (PW.pt (pw_or (pt_cmpR (op_neD hr.units) (pe_ix ix_seq (pv 0) pe_int (fun _ _ => rfl)) pe_str (nomark _)) (pw_or (pt_cmpR (op_neD hr.units) (pe_callB cr_len (by rfl) T.b_len (by decide +kernel) (pa_cons (pv 0) pa_nil)) pe_int (nomark _)) (pw_or (pt_not (pt_tru (pe_callB cr_isi (by rfl) T.b_isinstance (by decide +kernel) (pa_cons (pe_ix ix_seq (pv 0) pe_int (fun _ _ => rfl)) (pa_cons (pe_bltn (v := .ty "tuple") (by rfl) T.b_tuple (by decide +kernel) rfl) pa_nil))))) (pw_or1 (pt_cmpR (op_neD hr.units) (pe_callB cr_len (by rfl) T.b_len (by decide +kernel) (pa_cons (pe_ix ix_seq (pv 0) pe_int (fun _ _ => rfl)) pa_nil)) pe_int (nomark _))))))) (pss_one (ps_ret pe_bl)) pss_nil)
  (pss_cons (ps_for (passes_of rfl) rfl (pi_tup (pe_ix ix_seq (pv 0) pe_int (fun _ _ => rfl))) (pg_name (i := 1) nd rfl (Or.inl rfl)) (pss_one (ps_if (pt_not (pt_tru (pe_call G_law_integer (hr.mono (by decide)) rfl T.g__law_integer kp_law_integer b_law_integer .nil passL (pa_cons (pv 1) pa_nil)))) (pss_one (ps_ret pe_bl)) pss_nil)))
  (pss_one (ps_ret pe_bl))))))
theorem sc_law : FnScope N_law ["_law_script"] (defScope s_law) := ⟨rfl, rfl, rfl, by decide +kernel, rfl, by decide +kernel, by decide +kernel⟩
theorem ok_law (T : Tx K mg) (hF : ∃ fd, FunD K "law" "law" (defArgs s_law) (defBody s_law) (defScope s_law) [] [] (He.fAd K ("law", none)) fd) (h_new_table : Okd P w K mg base 1 (He.fAd K ("new_table", none)) [] (sp_new_table K)) (h_law_requests : Okd P w K mg base 2 (He.fAd K ("_law_requests", none)) ["_law_tape", "_law_many"] (sp_law_requests K)) (h_law_next : Okd P w K mg base 1 (He.fAd K ("_law_next", none)) ["_law_tape", "_law_many"] (sp_law_next K)) (h_answer_of : Okd P w K mg base 1 (He.fAd K ("answer_of", none)) ["table", "request"] (sp_answer_of K)) (h_is_request : Okd P w K mg base 3 (He.fAd K ("is_request", none)) ["value"] (sp_is_request K)) (h_after_request : Okd P w K mg base 1 (He.fAd K ("after_request", none)) ["table", "request"] (sp_after_request K)) (h_law_bent : Okd P w K mg base 2 (He.fAd K ("_law_bent", none)) ["_law_tape", "_law_request"] (sp_law_bent K)) (h_law_due : Okd P w K mg base 2 (He.fAd K ("_law_due", none)) ["_law_parts"] (sp_law_due K)) : Okd P w K mg base 4 (He.fAd K ("law", none)) ["_law_script"] (sp_law K) := by
  obtain ⟨fd_new_table, G_new_table, b_new_table, kp_new_table, _⟩ := h_new_table
  obtain ⟨fd_law_requests, G_law_requests, b_law_requests, kp_law_requests, _⟩ := h_law_requests
  obtain ⟨fd_law_next, G_law_next, b_law_next, kp_law_next, _⟩ := h_law_next
  obtain ⟨fd_answer_of, G_answer_of, b_answer_of, kp_answer_of, _⟩ := h_answer_of
  obtain ⟨fd_is_request, G_is_request, b_is_request, kp_is_request, _⟩ := h_is_request
  obtain ⟨fd_after_request, G_after_request, b_after_request, kp_after_request, _⟩ := h_after_request
  obtain ⟨fd_law_bent, G_law_bent, b_law_bent, kp_law_bent, _⟩ := h_law_bent
  obtain ⟨fd_law_due, G_law_due, b_law_due, kp_law_due, _⟩ := h_law_due
  refine Okd.of hF sc_law (fun vs H Q E h => match vs, h with | [_], _ => rfl) (fun _ _ _ _ _ _ us hl => match us, hl with | [_], _ => rfl) (t := t_law K) (fun cdv A outer s H E hr => ?_) (fun vs H Q E h => match vs, h with | [a0], h => pure_law h)
  have nd := sc_law.nd
  exact (pss_cons (ps_set (i := 1) nd rfl (Or.inl rfl) (pe_lst (pa_cons (pe_callTy cr_list (by rfl) T.b_list (by decide +kernel) (pa_cons (pv 0) pa_nil)) (pa_cons pe_int (pa_cons pe_int (pa_cons pe_int pa_nil))))))
  (pss_cons (ps_set (i := 2) nd rfl (Or.inl rfl) (pe_call0 G_new_table (hr.mono (by decide)) rfl T.g_new_table kp_new_table b_new_table .nil passL))
  (pss_cons (ps_set (i := 3) nd rfl (Or.inr rfl) pe_dnewK)
  (pss_cons (ps_for (passes_of rfl) rfl (pi_list (pe_call G_law_requests (hr.mono (by decide)) rfl T.g__law_requests kp_law_requests b_law_requests .nil passL (pa_cons (pv 1) (pa_cons (pe_call G_law_next (hr.mono (by decide)) rfl T.g__law_next kp_law_next b_law_next .nil passL (pa_cons (pv 1) (pa_cons pe_int pa_nil))) pa_nil)))) (pg_name (i := 4) nd rfl (Or.inl rfl)) (pss_cons (ps_set (i := 5) nd rfl (Or.inl rfl) (pe_callTy cr_tup (by rfl) T.b_tuple (by decide +kernel) (pa_cons (pe_callTy cr_list (by rfl) T.b_list (by decide +kernel) (pa_cons (pv 2) pa_nil)) pa_nil)))
  (pss_cons (ps_set (i := 6) nd rfl (Or.inl rfl) (pe_tup (pa_cons pe_str (pa_cons pe_non pa_nil))))
  (pss_cut (ps_if (pt_cmpR (op_eqD hr.units) (pe_ix ix_seq (pv 4) pe_int (fun _ _ => rfl)) pe_str (nomark _)) (pss_one (ps_set (i := 6) nd rfl (Or.inl rfl) (pe_tup (pa_cons pe_str (pa_cons (pe_dget2 (hu_of hr) (pv 3) (pe_ix ix_seq (pv 4) pe_int (fun _ _ => rfl)) (pe_tup (pa_cons pe_int (pa_cons pe_int (pa_cons pe_int (pa_cons pe_int pa_nil))))) ⟨rfl, rfl, rfl, rfl⟩) pa_nil))))) pss_nil)
  (pss_cons (ps_if (PW.pt (pw_or (pt_cmpR (op_neD hr.units) (pe_call G_answer_of (hr.mono (by decide)) rfl T.g_answer_of kp_answer_of b_answer_of .nil passL (pa_cons (pv 2) (pa_cons (pv 4) pa_nil))) (pv 6) (nomark _)) (pw_or1 (pt_cmpR op_notBl (pe_call G_is_request (hr.mono (by decide)) rfl T.g_is_request kp_is_request b_is_request .nil passL (pa_cons (pv 4) pa_nil)) pe_bl (nomark _))))) (pss_one (ps_ret pe_bl)) pss_nil)
  (pss_cons (ps_set (i := 7) nd rfl (Or.inl rfl) (pe_call G_after_request (hr.mono (by decide)) rfl T.g_after_request kp_after_request b_after_request .nil passL (pa_cons (pv 2) (pa_cons (pv 4) pa_nil))))
  (pss_cut (ps_if (pt_cmpR (op_eqD hr.units) (pe_ix ix_seq (pv 4) pe_int (fun _ _ => rfl)) pe_str (nomark _)) (pss_one (ps_dput (hu_of hr) (pv 3) (pe_ix ix_seq (pv 4) pe_int (fun _ _ => rfl)) (pe_ix ix_seq (pv 4) pe_int (fun _ _ => rfl)) rfl)) pss_nil)
  (pss_cons (ps_if (PW.pt (pw_or (pt_cmpR (op_neD hr.units) (pv 7) (pe_callTy cr_tup (by rfl) T.b_tuple (by decide +kernel) (pa_cons (pe_lc (own := [("_law_block", 10)]) (g := gName 10) (tt := tYes) (te := tDGet2 (tVar 3) (tVar 10) (tTup (tCons (tC (.int 0)) (tCons (tC (.int 0)) (tCons (tC (.int 0)) (tCons (tC (.int 0)) (tNil))))))) rfl nd (pi_range1 rfl T.b_range (pa_cons pe_int pa_nil)) (blkOk_by (own := [("_law_block", 10)]) (N := N_law) (sc := defScope s_law) (by decide +kernel)) (fun _ _ _ _ _ => (pg_name (i := 10) nd rfl (Or.inl rfl))) (fun _ _ _ _ _ => pts_nil) (fun _ _ _ _ _ => (pe_dget2 (hu_of hr) (pv 3) (pv 10) (pe_tup (pa_cons pe_int (pa_cons pe_int (pa_cons pe_int (pa_cons pe_int pa_nil))))) ⟨rfl, rfl, rfl, rfl⟩))) pa_nil)) (nomark _)) (pw_or1 (pt_cmpR (op_neD hr.units) (pv 2) (pv 5) (nomark _))))) (pss_one (ps_ret pe_bl)) pss_nil)
  (pss_cons (ps_set (i := 2) nd rfl (Or.inl rfl) (pv 7))
  (pss_cons (ps_set (i := 8) nd rfl (Or.inl rfl) (pe_call G_law_bent (hr.mono (by decide)) rfl T.g__law_bent kp_law_bent b_law_bent .nil passL (pa_cons (pv 1) (pa_cons (pv 4) pa_nil))))
  (pss_cons (ps_set (i := 9) nd rfl (Or.inl rfl) (pe_call G_is_request (hr.mono (by decide)) rfl T.g_is_request kp_is_request b_is_request .nil passL (pa_cons (pv 8) pa_nil)))
  (pss_one (ps_if (PW.pt (pw_or (pt_not (pt_tru (pe_callB cr_isi (by rfl) T.b_isinstance (by decide +kernel) (pa_cons (pv 9) (pa_cons (pe_bltn (v := .ty "bool") (by rfl) T.b_bool (by decide +kernel) rfl) pa_nil))))) (pw_or1 (pt_cmpR (op_neD hr.units) (pv 9) (pe_call G_law_due (hr.mono (by decide)) rfl T.g__law_due kp_law_due b_law_due .nil passL (pa_cons (pv 8) pa_nil)) (nomark _))))) (pss_one (ps_ret pe_bl)) pss_nil)))))))))))))
  (pss_one (ps_ret (pe_and (pe_not (pe_call G_is_request (hr.mono (by decide)) rfl T.g_is_request kp_is_request b_is_request .nil passL (pa_cons pe_non pa_nil))) (pe_one (pe_not (pe_call G_is_request (hr.mono (by decide)) rfl T.g_is_request kp_is_request b_is_request .nil passL (pa_cons (pe_lst (pa_cons pe_str (pa_cons pe_int pa_nil))) pa_nil)))))))))))
end
def dd_new_table : He.DefD := ⟨("new_table", none), "new_table", "new_table", defArgs s_new_table, defBody s_new_table, defScope s_new_table, [], []⟩
def dd_law_next : He.DefD := ⟨("_law_next", none), "_law_next", "_law_next", defArgs s_law_next, defBody s_law_next, defScope s_law_next, [], []⟩
def dd_law_requests : He.DefD := ⟨("_law_requests", none), "_law_requests", "_law_requests", defArgs s_law_requests, defBody s_law_requests, defScope s_law_requests, [], []⟩
def dd_answer_of : He.DefD := ⟨("answer_of", none), "answer_of", "answer_of", defArgs s_answer_of, defBody s_answer_of, defScope s_answer_of, [], []⟩
def dd_is_integer : He.DefD := ⟨("is_integer", none), "is_integer", "is_integer", defArgs s_is_integer, defBody s_is_integer, defScope s_is_integer, [], []⟩
def dd_is_block : He.DefD := ⟨("is_block", none), "is_block", "is_block", defArgs s_is_block, defBody s_is_block, defScope s_is_block, [], []⟩
def dd_are_values : He.DefD := ⟨("are_values", none), "are_values", "are_values", defArgs s_are_values, defBody s_are_values, defScope s_are_values, [], []⟩
def dd_is_request : He.DefD := ⟨("is_request", none), "is_request", "is_request", defArgs s_is_request, defBody s_is_request, defScope s_is_request, [], []⟩
def dd_after_request : He.DefD := ⟨("after_request", none), "after_request", "after_request", defArgs s_after_request, defBody s_after_request, defScope s_after_request, [], []⟩
def dd_law_bent : He.DefD := ⟨("_law_bent", none), "_law_bent", "_law_bent", defArgs s_law_bent, defBody s_law_bent, defScope s_law_bent, [], []⟩
def dd_law_integer : He.DefD := ⟨("_law_integer", none), "_law_integer", "_law_integer", defArgs s_law_integer, defBody s_law_integer, defScope s_law_integer, [], []⟩
def dd_law_due : He.DefD := ⟨("_law_due", none), "_law_due", "_law_due", defArgs s_law_due, defBody s_law_due, defScope s_law_due, [], []⟩
def dd_law : He.DefD := ⟨("law", none), "law", "law", defArgs s_law, defBody s_law, defScope s_law, [], []⟩
def fn : List He.DefD := [dd_new_table, dd_law_next, dd_law_requests, dd_answer_of, dd_is_integer, dd_is_block, dd_are_values, dd_is_request, dd_after_request, dd_law_bent, dd_law_integer, dd_law_due, dd_law]
def fa : List He.Fa := [.free "abs", .free "all", .free "bool", .free "int", .free "isinstance", .free "len", .free "list", .free "range", .free "tuple", .int "BLOCKS" 8, .int "CELLS" 4, .glo "_law_bent", .glo "_law_due", .glo "_law_integer", .glo "_law_next", .glo "_law_requests", .glo "after_request", .glo "answer_of", .glo "are_values", .glo "is_block", .glo "is_integer", .glo "is_request", .glo "new_table", .glo "law"]
abbrev R : PySem.W.OpenRow := PySem.W.OpenLaw.row PySem.Challenge.rw_ringbound_k13_requests_on_a_plain_table
abbrev hk : PySem.W.Hook := He.hookD 4 fa fn
def ob (s : PySem.W.SharedT) : He.AlD := He.obsDG 4 fa fn (HandSHeadRun.getT s)
theorem ob_eq (s : PySem.W.SharedT) : ob s = hk.obs s.abs := He.obsDG_eq (HandSHeadRun.getT_eq s)
def names : List PySem.Str := (["CELLS", "BLOCKS", "is_integer", "is_block", "are_values", "is_request", "new_table", "answer_of", "after_request", "_law_next", "_law_requests", "_law_acts", "_law_bent", "_law_integer", "_law_due"] : List PySem.Str)
theorem run (w : World) : HandSHeadRun.RunEq R (PySem.W.view R.prog [17]) hk ob 3000 names w := by
  intro os
  kernel_rfl
theorem facts {P : Program} {w : World} {K : PySem.W.Frag} {h : Heap} {mg : Str → Option Value} {f : Addr} (X : K.In h) (G : h.Ns mainGlobals mg) (hfa : mg ("law" : Str) = some (.ref f)) (c : He.SaysD fa fn K) :
    ∃ fd : FuncData, (∀ (s : Shared) (v : Value), BindsTo s fd ⟨[v], []⟩ [("_law_script", v)]) ∧ ∀ base : Heap, K.In base → base.Ns mainGlobals mg → FnOk P w K mg base (L2.CX P w) 4 f fd ["_law_script"] (sp_law K) := by
  have e := hfa.symm.trans (He.glo_ok X G (c.fact 23 rfl))
  cases e
  have T : Tx K mg := ⟨He.free_ok X G (c.fact 0 rfl), He.free_ok X G (c.fact 1 rfl), He.free_ok X G (c.fact 2 rfl), He.free_ok X G (c.fact 3 rfl), He.free_ok X G (c.fact 4 rfl), He.free_ok X G (c.fact 5 rfl), He.free_ok X G (c.fact 6 rfl), He.free_ok X G (c.fact 7 rfl), He.free_ok X G (c.fact 8 rfl), He.int_ok X G (c.fact 9 rfl), He.int_ok X G (c.fact 10 rfl), He.glo_ok X G (c.fact 11 rfl), He.glo_ok X G (c.fact 12 rfl), He.glo_ok X G (c.fact 13 rfl), He.glo_ok X G (c.fact 14 rfl), He.glo_ok X G (c.fact 15 rfl), He.glo_ok X G (c.fact 16 rfl), He.glo_ok X G (c.fact 17 rfl), He.glo_ok X G (c.fact 18 rfl), He.glo_ok X G (c.fact 19 rfl), He.glo_ok X G (c.fact 20 rfl), He.glo_ok X G (c.fact 21 rfl), He.glo_ok X G (c.fact 22 rfl)⟩
  have ok_new_table : ∀ base : Heap, Okd P w K mg base 1 (He.fAd K ("new_table", none)) [] (sp_new_table K) := fun base => Rb13.ok_new_table T (c.def_ 0 (d := dd_new_table) rfl) 
  have ok_law_next : ∀ base : Heap, Okd P w K mg base 1 (He.fAd K ("_law_next", none)) ["_law_tape", "_law_many"] (sp_law_next K) := fun base => Rb13.ok_law_next T (c.def_ 1 (d := dd_law_next) rfl) 
  have ok_law_requests : ∀ base : Heap, Okd P w K mg base 2 (He.fAd K ("_law_requests", none)) ["_law_tape", "_law_many"] (sp_law_requests K) := fun base => Rb13.ok_law_requests T (c.def_ 2 (d := dd_law_requests) rfl) (ok_law_next base)
  have ok_answer_of : ∀ base : Heap, Okd P w K mg base 1 (He.fAd K ("answer_of", none)) ["table", "request"] (sp_answer_of K) := fun base => Rb13.ok_answer_of T (c.def_ 3 (d := dd_answer_of) rfl) 
  have ok_is_integer : ∀ base : Heap, Okd P w K mg base 1 (He.fAd K ("is_integer", none)) ["value"] (sp_is_integer K) := fun base => Rb13.ok_is_integer T (c.def_ 4 (d := dd_is_integer) rfl) 
  have ok_is_block : ∀ base : Heap, Okd P w K mg base 2 (He.fAd K ("is_block", none)) ["value"] (sp_is_block K) := fun base => Rb13.ok_is_block T (c.def_ 5 (d := dd_is_block) rfl) (ok_is_integer base)
  have ok_are_values : ∀ base : Heap, Okd P w K mg base 2 (He.fAd K ("are_values", none)) ["value"] (sp_are_values K) := fun base => Rb13.ok_are_values T (c.def_ 6 (d := dd_are_values) rfl) (ok_is_integer base)
  have ok_is_request : ∀ base : Heap, Okd P w K mg base 3 (He.fAd K ("is_request", none)) ["value"] (sp_is_request K) := fun base => Rb13.ok_is_request T (c.def_ 7 (d := dd_is_request) rfl) (ok_is_block base) (ok_are_values base)
  have ok_after_request : ∀ base : Heap, Okd P w K mg base 1 (He.fAd K ("after_request", none)) ["table", "request"] (sp_after_request K) := fun base => Rb13.ok_after_request T (c.def_ 8 (d := dd_after_request) rfl) 
  have ok_law_bent : ∀ base : Heap, Okd P w K mg base 2 (He.fAd K ("_law_bent", none)) ["_law_tape", "_law_request"] (sp_law_bent K) := fun base => Rb13.ok_law_bent T (c.def_ 9 (d := dd_law_bent) rfl) (ok_law_next base)
  have ok_law_integer : ∀ base : Heap, Okd P w K mg base 1 (He.fAd K ("_law_integer", none)) ["_law_value"] (sp_law_integer K) := fun base => Rb13.ok_law_integer T (c.def_ 10 (d := dd_law_integer) rfl) 
  have ok_law_due : ∀ base : Heap, Okd P w K mg base 2 (He.fAd K ("_law_due", none)) ["_law_parts"] (sp_law_due K) := fun base => Rb13.ok_law_due T (c.def_ 11 (d := dd_law_due) rfl) (ok_law_integer base)
  obtain ⟨fd, F⟩ := c.def_ 12 (d := dd_law) rfl
  have b := FunD.bindsA (ps := ["_law_script"]) F fun _ _ _ _ _ _ us hl => match us, hl with | [_], _ => rfl
  exact ⟨fd, fun s v => b s [v] rfl, fun base _ _ => Okd.fixD F (Rb13.ok_law T ⟨fd, F⟩ (ok_new_table base) (ok_law_requests base) (ok_law_next base) (ok_answer_of base) (ok_is_request base) (ok_after_request base) (ok_law_bent base) (ok_law_due base))⟩
end Rb13
open PySem PySem.W PySem.Calls PyProof.Rows
theorem PySem.Challenge.cw_ringbound_k13_requests_on_a_plain_table_holds : PySem.Challenge.rw_ringbound_k13_requests_on_a_plain_table.Holds := by
  w_on; o_law
  refine HandSHeadRun.head_any (r := OpenLaw.row PySem.Challenge.rw_ringbound_k13_requests_on_a_plain_table) (q := view (OpenLaw.row PySem.Challenge.rw_ringbound_k13_requests_on_a_plain_table).prog [17]) (H := Rb13.hk) (ob := Rb13.ob) (M := 3000) (loose := Rb13.names) (d := HandSHeadRun.topDef (OpenLaw.row PySem.Challenge.rw_ringbound_k13_requests_on_a_plain_table).prog 17) (kwd := []) Rb13.ob_eq
    (by kernel_rfl) (fun s => by kernel_rfl) Rb13.run (by kernel_rfl) (by kernel_rfl) (by kernel_rfl) (by rfl) (by first | assumption | decide +kernel) (by decide +kernel) ⟨rfl, rfl, rfl, rfl, rfl, by decide +kernel⟩ ?hw ?hc
  case hw => w_witness2
  case hc =>
    refine Rb.walk_ofX (l := PySem.Challenge.rw_ringbound_k13_requests_on_a_plain_table) (n := 63) (k := 4) (x := "_law_script") rfl (by decide) (by kernel_rfl) ⟨rfl, by decide, by decide⟩ ?F
    intro w mg fa h Y G hmg0
    obtain ⟨K, KX, c⟩ := Y
    have hmg : mg ("law" : PySem.Str) = some (.ref fa) := by
      have e : (HandSHeadRun.topDef (OpenLaw.row PySem.Challenge.rw_ringbound_k13_requests_on_a_plain_table).prog 17).name = ("law" : PySem.Str) := by kernel_rfl
      rw [← e]
      exact hmg0
    obtain ⟨fd, hb, hF⟩ := Rb13.facts (P := (PySem.Challenge.rw_ringbound_k13_requests_on_a_plain_table).prog) (w := w) KX G hmg c
    exact ⟨K, fd, Rb13.sp_law K, KX, hb, fun H a xs hl _ hS => ⟨a, xs, rfl, hl, hS, fun _ => rfl⟩, hF⟩

