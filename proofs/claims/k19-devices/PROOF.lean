import PyProof.Rows.All
import Wide.All
import OpenK.AllK
import Wide.FinOn
import PyProof.EqAt
import PyProof.EqKinds
import PyProof.TupleCall
import HandS.ForMost
import HandS.ForExc
import HandS.Conv
import HandS.TupMul
import HandS.TupAny
import HandS.Style
import HandS.Steps
import HandS.Deep
import HandS.IsInst
import HandS.Flow
import HandS.Defaults
import HandS.HeadHook1
import HandS.HeadHook2
import HandS.HeadEnd
import HandS.Head0
import HandS.Head1
import HandS.Head2
import KE.KStateDown
import HandS.ExcOwn
import HandS.ExcIs
import HandS.TryOnly
import HandS.More
import PyProof.ExcBaseAll.ValueError
import HandS.Iter
import HandS.SetKeys
import HandS.DictComp
import HandS.SortInts
import HandS.NoneIn
import PyProof.DictRoadsH
import PySem.Challenge.RW_ringbound_k19_honest_devices_step_by_ste
set_option Elab.async false
set_option linter.all false
set_option maxRecDepth 100000
set_option maxHeartbeats 4000000
/-! Rb: rules joined by cases, names for readings, the tactic rows of the walks. -/
namespace Rb
open PySem PySem.Spec PyProof.Rows L2
/-! ### names of readings -/
def rAddI : R2 := rI0 fun i j => .int (i + j)
def rSubI : R2 := rI0 fun i j => .int (i - j)
def rMulI : R2 := rI CMul fun i j => .int (i * j)
def rDivI : R2 := rI CDiv fun i j => .int (i / j)
def rModI : R2 := rI (fun _ j => 0 < j) fun i j => .int (i % j)
def rPowI : R2 := rI CPow fun i j => .int (i ^ j.toNat)
def rNegI : V → Hp → VK → Prop := rU fun i => .int (-i)
def rLtI : R2 := rI0 fun i j => .bl (decide (i < j))
def rLeI : R2 := rI0 fun i j => .bl (decide (i ≤ j))
def rGtI : R2 := rI0 fun i j => .bl (decide (j < i))
def rGeI : R2 := rI0 fun i j => .bl (decide (j ≤ i))
def rAddA (K : PySem.W.Frag) : R2 := fun x y H Q => rAddI x y H Q ∨ rCat x y H Q ∨ rCatA K x y H Q
def rMulA (K : PySem.W.Frag) : R2 := fun x y H Q => rMulI x y H Q ∨ rRep x y H Q ∨ rRepT K x y H Q
def rSlX (K : PySem.W.Frag) : V → Option Int → Option Int → Hp → VK → Prop := fun x lo hi H Q => rSlL K x lo hi H Q ∨ rSlA K x lo hi H Q
def rInA (K : PySem.W.Frag) : R2 := fun x y H Q => rIn K false x y H Q ∨ rInD K x y H Q
def rNiA (K : PySem.W.Frag) : R2 := fun x y H Q => rIn K true x y H Q ∨ rNotInD K x y H Q
def rLenA (K : PySem.W.Frag) : List V → Hp → VK → Prop := fun xs H Q => ∃ x n, xs = [x] ∧ LenV K x H n ∧ Q (.int n) H
def rAbsI : List V → Hp → VK → Prop := fun xs H Q => ∃ i, xs = [.int i] ∧ Q (.int (if i < 0 then -i else i)) H
def rIntC : List V → Hp → VK → Prop := fun xs H Q => (∃ i, xs = [.int i] ∧ Q (.int i) H) ∨ ∃ k, xs = [.bl k] ∧ Q (.int (if k then 1 else 0)) H
def rMin2 : List V → Hp → VK → Prop := fun xs H Q => ∃ i j, xs = [.int i, .int j] ∧ Q (.int (if j < i then j else i)) H
def rMax2 : List V → Hp → VK → Prop := fun xs H Q => ∃ i j, xs = [.int i, .int j] ∧ Q (.int (if j > i then j else i)) H
def rListC (K : PySem.W.Frag) : List V → Hp → VK → Prop := fun xs H Q => ∃ p ys, xs = [.ref p] ∧ (SqL K H p ys ∨ SqT K H p ys) ∧ ∀ l, H l = none → Q (.ref l) (upd H l (.lst ys))
def rTupC (K : PySem.W.Frag) : List V → Hp → VK → Prop := fun xs H Q => ∃ p ys, xs = [.ref p] ∧ ((SqL K H p ys ∧ ∀ l, H l = none → Q (.ref l) (upd H l (.tup ys))) ∨ (SqT K H p ys ∧ Q (.ref p) H))
section
variable {X : Cx}
theorem op_addA : OpR X (binaryOp .Add) (rAddA X.K) := OpR.or op_add (OpR.or op_cat op_catA)
theorem op_mulA : OpR X (binaryOp .Mult) (rMulA X.K) := OpR.or op_mul (OpR.or op_rep op_repT)
theorem op_subN : OpR X (binaryOp .Sub) rSubI := op_sub
theorem op_divN : OpR X (binaryOp .FloorDiv) rDivI := op_fdiv
theorem op_modI : OpR X (binaryOp .Mod) rModI := op_mod
theorem op_powI : OpR X (binaryOp .Pow) rPowI := op_pow
theorem un_negI : UnR X (unaryOp .USub) rNegI := un_neg
theorem op_ltI : OpR X (compareOp .Lt) rLtI := op_lt
theorem op_leI : OpR X (compareOp .LtE) rLeI := op_le
theorem op_gtI : OpR X (compareOp .Gt) rGtI := op_gt
theorem op_geI : OpR X (compareOp .GtE) rGeI := op_ge
theorem sl_A : SlR X (rSlX X.K) := SlR.or sl_list sl_tupA
theorem op_inA (hu : X.A.units + 65 < cLine) : OpR X (compareOp .In) (rInA X.K) := OpR.or op_in_seq (op_inD hu)
theorem op_niA (hu : X.A.units + 65 < cLine) : OpR X (compareOp .NotIn) (rNiA X.K) := OpR.or op_notIn_seq (op_notInD hu)
theorem cr_len : CallR X (.builtin "len") (rLenA X.K) := call_len
theorem cr_abs : CallR X (.builtin "abs") rAbsI := call_abs
theorem cr_int : CallR X (.type "int") rIntC := call_int1
theorem cr_min2 (hc : X.calm = true) : CallR X (.builtin "min") rMin2 := call_min2 hc
theorem cr_max2 (hc : X.calm = true) : CallR X (.builtin "max") rMax2 := call_max2 hc
theorem cr_list : CallR X (.type "list") (rListC X.K) := call_list_of
theorem cr_tup : CallR X (.type "tuple") (rTupC X.K) := call_tuple_of
theorem cr_isi : CallR X (.builtin "isinstance") (rIsi X.K) := call_isi
theorem pt_tru {a : Expr} {ta : TE} (ha : PE X a ta) (he : ∀ whole, isTrue a X.env whole = (do let v ← whole; standAt a.pos; holding [v] (truthy v)) := by intro _; rfl) : PT X a (tTru X.K ta) := pt_truth ha he
theorem pe_gint {x : Str} {i : Int} {pos : Pos} (hg : Gl X x) (hm : ∃ t, X.mg x = some (.int i t)) (hd : (x == ("__debug__" : Str)) = false := by decide) : PE X (.Name x pos) (tC (.int i)) := by
  obtain ⟨t, e⟩ := hm
  exact pe_glob hg e ⟨t, rfl⟩ hd
/-! ### l[i] as a place of l[i] op= e -/
def rGetL (K : PySem.W.Frag) : V → V → Hp → VK → Prop := fun x y H Q => ∃ p xs i v, x = .ref p ∧ y = .int i ∧ SqL K H p xs ∧ 0 ≤ i ∧ xs[i.toNat]? = some v ∧ Q v H
theorem get_list : PGet X (rGetL X.K) := by
  intro pins s σ H o i ov iv Q I ro ri h
  obtain ⟨p, xs, k, v, rfl, rfl, hp, hk, hx, q⟩ := h
  cases ro
  obtain ⟨t, rfl⟩ := ri
  obtain ⟨its, r, pl, hz⟩ := I.list hp
  obtain ⟨w, ew, rw'⟩ := r.get hx
  have hlt : k.toNat < xs.length := (List.getElem?_eq_some_iff.mp hx).1
  have hn := line63
  have hl := r.length
  refine wpAny_getItem_list pl.isList hk (by omega) (by simpa using ew) ⟨v, H, I, rw', q⟩
end
/-! ### a word between a statement and the rest -/
def tCut (t u : TS) : TS := fun D σ H => ∃ Mid : L2.St → Hp → Prop, t { D with nx := Mid } σ H ∧ ∀ σ' H', Mid σ' H' → u D σ' H'
theorem pss_cut {X : Cx} {st : Stmt} {rest : List Stmt} {t u : TS} (h1 : PS X st t) (h2 : PSs X rest u) : PSs X (st :: rest) (tCut t u) := by
  refine ⟨fun pins s σ H D I h => ?_⟩
  obtain ⟨Mid, hm, hu⟩ := h
  refine wpAny_execs_cons (thn (h1.run pins s σ H { D with nx := Mid } I hm) fun f s1 q => ?_)
  cases f with
  | next =>
    obtain ⟨σ', H', I', q⟩ := q
    exact h2.run pins s1 σ' H' D I' (hu σ' H' q)
  | ret v => exact q
  | brk => exact q
  | cont => exact q
/-! ### a def of the text with its arguments -/
/-- a def keeps its promise at f, with its arguments' binding -/
def Okd (P : Program) (w : World) (K : PySem.W.Frag) (mg : Str → Option Value) (base : Heap) (k : Nat) (f : Addr) (ps : List Str) (sp : Sp) : Prop :=
  ∃ fd, FnOk P w K mg base (L2.CX P w) k f fd ps sp ∧ Binds K fd ps [] ∧ PySem.W.keepIn K (.ref f) = true ∧ ∃ oc od osl, K.lookup f = some ⟨oc, od, .func fd, osl⟩
theorem Okd.of {P : Program} {w : World} {K : PySem.W.Frag} {mg : Str → Option Value} {base : Heap} {x qual : Str} {st : Stmt} {f : Addr} {N ps : List Str} {k : Nat} {sp : Sp}
    (hF : ∃ fd, FunD K x qual (defArgs st) (defBody st) (defScope st) [] [] f fd) (S : FnScope N ps (defScope st)) (len : ∀ vs H Q E, sp vs H Q E → vs.length = ps.length)
    (hb : ∀ (kV doc pm : Value) (an : Option Addr) (cdv ct : Value) (us : List Value), us.length = ps.length → bindArgs (PySem.W.fnOf x qual (defArgs st) (defBody st) (defScope st) .none kV doc pm an cdv ct) ⟨us, []⟩ = pure (ps.zip us))
    {t : XK → TS} (hbody : ∀ (cdv : Value) (A : Around) (outer : List Env) (s : Shared) (H : Hp) (E : XK), Room k (A.deeper (envOfC qual (defScope st) s.heap.objs.size f cdv)) →
      PSs (cxOf (L2.CX P w) P w K mg base N qual (defScope st) f cdv A outer s H E) (defBody st) (t E))
    (pure_ : ∀ vs H Q E, sp vs H Q E → t E { nx := fun _ H' => Q .non H', rt := Q } (start N vs) H) : Okd P w K mg base (k + 1) f ps sp := by
  obtain ⟨fd, F⟩ := hF
  refine ⟨fd, F.ok S len fun cdv A outer s H vs Q E hr h => ⟨t E, hbody cdv A outer s H E hr, pure_ vs H Q E h⟩, F.bindsN hb, F.kp, ?_⟩
  obtain ⟨oc, od, dV, kV, doc, pm, an, cdv, ct, osl, rfl, lk, _, _, _⟩ := F.ex
  exact ⟨oc, od, osl, lk⟩
theorem Okd.fixD {P : Program} {w : World} {K : PySem.W.Frag} {mg : Str → Option Value} {base : Heap} {x qual : Str} {params : Arguments} {body : List Stmt} {scope : Scope} {f : Addr} {ps : List Str} {k : Nat} {sp : Sp} {fd : FuncData} {dvs : List V} {kws : List (Str × V)}
    (F : FunD K x qual params body scope dvs kws f fd) (h : Okd P w K mg base k f ps sp) : FnOk P w K mg base (L2.CX P w) k f fd ps sp := by
  obtain ⟨oc, od, dV, kV, doc, pm, an, cdv, ct, osl, rfl, lk, _, _, _⟩ := F.ex
  obtain ⟨fd', G, _, _, oc', od', osl', lk'⟩ := h
  rw [lk] at lk'
  injection lk' with z
  injection z with _ _ z _
  injection z with z
  rw [z]
  exact G
theorem Okd.mono {P : Program} {w : World} {K : PySem.W.Frag} {mg : Str → Option Value} {base : Heap} {j k : Nat} {f : Addr} {ps : List Str} {sp : Sp} (h : Okd P w K mg base j f ps sp) (hk : j ≤ k) : Okd P w K mg base k f ps sp := by
  obtain ⟨fd, F, b, kp, lk⟩ := h
  exact ⟨fd, F.mono hk, b, kp, lk⟩
/-! ### the law's call, where an exception may be in the air within -/
theorem walk_ofX {l : PySem.W.OpenLaw} {n k : Nat} {q : Program} {loose : List Str} {XP : (Str → Option Value) → Heap → Prop} {YP : World → Heap → Prop} {d : DefRec} {x : Str}
    (hn : l.most = some n) (hn2 : n ≤ sizeLine) (hdf : d.params.defaults = []) (hr : Room k callerA)
    (F : ∀ (w : World) (mg : Str → Option Value) (fa : Addr) (h : Heap), YP w h → h.Ns mainGlobals mg → mg d.name = some (.ref fa) →
      ∃ (K : PySem.W.Frag) (fd : FuncData) (sp : Sp), K.In h ∧ (∀ (s : Shared) (u : Value), BindsTo s fd ⟨[u], []⟩ [(x, u)]) ∧
        (∀ (H : Hp) (a : Addr) (ns : List Int), ns.length ≤ n → Only H → SqL K H a (ns.map V.int) → sp [.ref a] H (fun v _ => v = .bl true) fun _ _ _ => False) ∧
        ∀ base : Heap, K.In base → base.Ns mainGlobals mg → FnOk l.prog w K mg base (L2.CX l.prog w) k fa fd [x] sp) :
    PySem.W.WalkO q loose XP YP l.row.toRowW d [] (fun f vs => PySem.call f vs) := by
  refine Att.attach_call hn hdf fun w s₀ s₁ mg mb fa o pm cd doc a vs ns G Y ho hd hcd hmg hobj hints hlen hg => ?_
  obtain ⟨K, fd, sp, KX, hb, hsp, hF⟩ := F w mg fa _ Y G.T.g hmg
  exact law_call KX G.T.g G.T.b G.T.builtins G.T.nolimit hg hobj hints (Nat.le_trans hlen hn2) hr hF hb (fun H hO hS => hsp H a ns hlen hO hS) fun H e s' ⟨_, _, _, _, _, _, _, _, _, _, _, _, z⟩ => z
end Rb
/-! Rb: readings, one step at a time (i_*). -/
namespace Rb
open PySem PySem.Spec PyProof.Rows L2
variable {K : PySem.W.Frag} {σ : L2.St} {H H1 H2 : Hp} {D : Ends} {Q : VK} {QB : Bool → Hp → Prop} {QA : List V → Hp → Prop} {E : XK}
/-! ### statements -/
theorem i_seq {t u : TS} (h : t { D with nx := u D } σ H) : tSeq t u D σ H := h
theorem i_cut {t u : TS} (M : L2.St → Hp → Prop) (h : t { D with nx := M } σ H) (k : ∀ σ' H', M σ' H' → u D σ' H') : tCut t u D σ H := ⟨M, h, k⟩
theorem i_asg {te : TE} {g : TG} (h : te σ H fun x H1 => g x σ H1 D.nx) : tAsg te g D σ H := h
theorem i_gname {i : Nat} {v : V} {R : L2.St → Hp → Prop} (h : R (σ.set i (some v)) H) : gName i v σ H R := h
theorem i_gsub {to ti : TE} {t : TSet} {v : V} {R : L2.St → Hp → Prop} (h : to σ H fun o H1 => ti σ H1 fun i H2 => t o i v H2 fun H3 => R σ H3) : gSub to ti t v σ H R := h
theorem i_gtup {n : Nat} {t : TGs} {a : Addr} {xs : List V} {R : L2.St → Hp → Prop} (hq : SqT K H a xs) (hl : xs.length = n) (h : t xs σ H R) : gTup K n t (.ref a) σ H R := ⟨a, xs, rfl, hq, hl, h⟩
theorem i_gnil {R : L2.St → Hp → Prop} (h : R σ H) : gNil [] σ H R := ⟨rfl, h⟩
theorem i_gcons {t : TG} {u : TGs} {v : V} {r : List V} {R : L2.St → Hp → Prop} (h : t v σ H fun σ' H' => u r σ' H' R) : gCons t u (v :: r) σ H R := ⟨v, r, rfl, h⟩
theorem i_ret {te : TE} (h : te σ H D.rt) : tRet te D σ H := h
theorem i_retN (h : D.rt .non H) : tRetN D σ H := h
theorem i_next (h : D.nx σ H) : tNext D σ H := h
theorem i_cont (h : D.ct σ H) : tCont D σ H := h
theorem i_break (h : D.bk σ H) : tBreak D σ H := h
theorem i_drop {te : TE} (h : te σ H fun _ H1 => D.nx σ H1) : tDrop te D σ H := h
theorem i_ifS {c : TT} {t u : TS} (h : c σ H fun b H1 => if b = true then t D σ H1 else u D σ H1) : tIfS c t u D σ H := h
theorem i_setL {p : Addr} {xs : List V} {k : Int} {j : Nat} {v : V} {R : Hp → Prop} (hp : H p = some (.lst xs)) (hj : ixN xs.length k = some j) (h : R (upd H p (.lst (xs.set j v)))) : rSetL (.ref p) (.int k) v H R := ⟨p, xs, k, j, rfl, rfl, hp, hj, h⟩
theorem i_augS {to ti te : TE} {tget : V → V → Hp → VK → Prop} {tip : TIp} {tset : TSet} (h : to σ H fun o H1 => ti σ H1 fun i H2 => tget o i H2 fun x H3 => te σ H3 fun y H4 => tip x y H4 fun z H5 => tset o i z H5 fun H6 => D.nx σ H6) : tAugS to ti te tget tip tset D σ H := h
theorem i_getL {p : Addr} {xs : List V} {i : Int} {v : V} (hp : SqL K H p xs) (h0 : 0 ≤ i) (hv : xs[i.toNat]? = some v) (q : Q v H) : rGetL K (.ref p) (.int i) H Q := ⟨p, xs, i, v, rfl, rfl, hp, h0, hv, q⟩
theorem i_ipI {f : Int → Int → Int} {i j : Int} (q : Q (.int (f i j)) H) : ipI f (.int i) (.int j) H Q := ⟨i, j, rfl, rfl, q⟩
theorem i_aug {i : Nat} {te : TE} {ti : TIp} {x : V} (hx : σ[i]? = some (some x)) (h : te σ H fun y H1 => ti x y H1 fun z H2 => D.nx (σ.set i (some z)) H2) : tAug i te ti D σ H := ⟨x, hx, h⟩
theorem i_sfld {ta tv : TE} {f : Str} (h : tv σ H fun y H1 => ta σ H1 fun x H2 => ∃ a C dx fs, x = .ref a ∧ H2 a = some (.ins C dx fs) ∧ Cls K C ∧ NoAttr K C f ∧ fs.length < 1000 ∧ D.nx σ (upd H2 a (.ins C dx (putF f y fs)))) : sFld K ta tv f D σ H := h
theorem i_sfldIn {a C dx : Addr} {fs : List (Str × V)} {f : Str} {y : V} (h : H a = some (.ins C dx fs)) (c : Cls K C) (n : NoAttr K C f) (l : fs.length < 1000) (q : D.nx σ (upd H a (.ins C dx (putF f y fs)))) :
    ∃ a' C dx fs, V.ref a = .ref a' ∧ H a' = some (.ins C dx fs) ∧ Cls K C ∧ NoAttr K C f ∧ fs.length < 1000 ∧ D.nx σ (upd H a' (.ins C dx (putF f y fs))) := ⟨a, C, dx, fs, rfl, h, c, n, l, q⟩
/-! ### expressions -/
theorem i_var {i : Nat} {v : V} (h : σ[i]? = some (some v)) (q : Q v H) : tVar i σ H Q := ⟨v, h, q⟩
theorem i_c {v : V} (q : Q v H) : tC v σ H Q := q
theorem i_op {r : R2} {ta tb : TE} (h : ta σ H fun x H1 => tb σ H1 fun y H2 => r x y H2 Q) : tOp r ta tb σ H Q := h
theorem i_un {r : V → Hp → VK → Prop} {ta : TE} (h : ta σ H fun x H1 => r x H1 Q) : tUn r ta σ H Q := h
theorem i_neg {i : Int} (q : Q (.int (-i)) H) : rNegI (.int i) H Q := ⟨i, rfl, q⟩
theorem i_nil (q : QA [] H) : tNil σ H QA := q
theorem i_cons {ta : TE} {tr : TA} (h : ta σ H fun x H1 => tr σ H1 fun xs H2 => QA (x :: xs) H2) : tCons ta tr σ H QA := h
theorem i_tup {t : TA} (h : t σ H fun xs H1 => xs.length ≤ sizeLine ∧ ∀ p, H1 p = none → Q (.ref p) (upd H1 p (.tup xs))) : tTup t σ H Q := h
theorem i_lst {t : TA} (h : t σ H fun xs H1 => xs.length ≤ sizeLine ∧ ∀ p, H1 p = none → Q (.ref p) (upd H1 p (.lst xs))) : tLst t σ H Q := h
theorem i_cb {r : List V → Hp → VK → Prop} {t : TA} (h : t σ H fun vs H1 => r vs H1 Q) : tCB r t σ H Q := h
theorem i_bm {T : String} {r : V → List V → Hp → VK → Prop} {to : TE} {t : TA} (h : to σ H fun x H1 => tyV K T x H1 ∧ t σ H1 fun xs H2 => r x xs H2 Q) : tBM K T r to t σ H Q := h
theorem i_bm0 {T : String} {r : V → List V → Hp → VK → Prop} {to : TE} (h : to σ H fun x H1 => tyV K T x H1 ∧ r x [] H1 Q) : tBM0 K T r to σ H Q := h
theorem i_fld {ta : TE} {f : Str} (h : ta σ H fun x H1 => ∃ a C dx fs v, x = .ref a ∧ H1 a = some (.ins C dx fs) ∧ Cls K C ∧ NoAttr K C f ∧ fs.lookup f = some v ∧ Q v H1) : tFld K ta f σ H Q := h
theorem i_fldIn {a C dx : Addr} {fs : List (Str × V)} {f : Str} {v : V} {R : V → Prop} (h : H a = some (.ins C dx fs)) (c : Cls K C) (n : NoAttr K C f) (l : fs.lookup f = some v) (q : R v) :
    ∃ a' C dx fs v, V.ref a = .ref a' ∧ H a' = some (.ins C dx fs) ∧ Cls K C ∧ NoAttr K C f ∧ fs.lookup f = some v ∧ R v := ⟨a, C, dx, fs, v, rfl, h, c, n, l, q⟩
theorem i_sl {r : V → Option Int → Option Int → Hp → VK → Prop} {te : TE} {tl th : TO} (h : te σ H fun x H1 => tl σ H1 fun l H2 => th σ H2 fun u H3 => r x l u H3 Q) : tSl r te tl th σ H Q := h
theorem i_nopart {R : Option Int → Hp → Prop} (q : R none H) : tNoPart σ H R := q
theorem i_part {t : TE} {R : Option Int → Hp → Prop} (h : t σ H fun x H1 => ∃ i, x = .int i ∧ R (some i) H1) : tPart t σ H R := h
theorem i_partIn {i : Int} {R : Int → Prop} (q : R i) : ∃ j, V.int i = .int j ∧ R j := ⟨i, rfl, q⟩
theorem i_chain {r r' : R2} {ta tb tc : TE} (h : ta σ H fun x H1 => tb σ H1 fun y H2 => r x y H2 fun z H3 => ∃ k, z = .bl k ∧ (if k = true then tc σ H3 fun w' H4 => r' y w' H4 Q else Q (.bl false) H3)) : tChain r r' ta tb tc σ H Q := h
theorem i_andV {ta tb : TE} (h : ta σ H fun x H1 => ∃ c, x = .bl c ∧ if c = true then tb σ H1 Q else Q (.bl false) H1) : tAndV ta tb σ H Q := h
theorem i_orV {ta tb : TE} (h : ta σ H fun x H1 => ∃ c, x = .bl c ∧ if c = true then Q (.bl true) H1 else tb σ H1 Q) : tOrV ta tb σ H Q := h
theorem i_notV {ta : TE} (h : ta σ H fun x H1 => ∃ c, x = .bl c ∧ Q (.bl (!c)) H1) : tNotV ta σ H Q := h
theorem i_test {t : TE} (h : t σ H fun x H' => ∃ k, x = .bl k ∧ QB k H') : tTest t σ H QB := h
theorem i_B {t : TE} (h : t σ H fun x H' => ∃ k, x = .bl k ∧ QB k H') : tB t σ H QB := h
theorem i_tru {ta : TE} (h : ta σ H fun x H' => ∃ k, TruV K x H' k ∧ QB k H') : tTru K ta σ H QB := h
theorem i_truB {b : Bool} {R : Bool → Prop} (q : R b) : ∃ k, TruV K (.bl b) H k ∧ R k := ⟨b, rfl, q⟩
theorem i_truL {a : Addr} {xs : List V} {R : Bool → Prop} (h : SqL K H a xs) (q : R (!xs.isEmpty)) : ∃ k, TruV K (.ref a) H k ∧ R k := ⟨_, .inl ⟨xs, h, rfl⟩, q⟩
theorem i_truD {a : Addr} {kvs : List (Key × V)} {R : Bool → Prop} (h : H a = some (.dK kvs)) (q : R (!kvs.isEmpty)) : ∃ k, TruV K (.ref a) H k ∧ R k := ⟨_, .inr (.inr ⟨kvs, h, rfl⟩), q⟩
theorem i_bl {b : Bool} {R : Bool → Hp → Prop} (q : R b H) : ∃ k, V.bl b = .bl k ∧ R k H := ⟨b, rfl, q⟩
theorem i_blC {b : Bool} {R : Bool → Prop} (q : R b) : ∃ k, V.bl b = .bl k ∧ R k := ⟨b, rfl, q⟩
theorem i_not {t : TT} (h : t σ H fun c H1 => QB (!c) H1) : tNot t σ H QB := h
theorem i_and {t u : TT} (h : t σ H fun c H1 => if c = true then u σ H1 QB else QB false H1) : tAnd t u σ H QB := h
theorem i_or {t u : TT} (h : t σ H fun c H1 => if c = true then QB true H1 else u σ H1 QB) : tOr t u σ H QB := h
theorem i_if {t : TT} {ta tb : TE} (h : t σ H fun c H1 => if c = true then ta σ H1 Q else tb σ H1 Q) : tIf t ta tb σ H Q := h
theorem i_call {sp : Sp} {E' : XK} {t : TA} (h : t σ H fun vs H1 => sp (vs ++ []) H1 Q E') : tCall sp [] E' t σ H Q := h
theorem i_meth {C : Addr} {m : Str} {sp : Sp} {E' : XK} {ta : TE} {t : TA} (h : ta σ H fun x H1 => ∃ a dx fs, x = .ref a ∧ H1 a = some (.ins C dx fs) ∧ fs.lookup m = none ∧ t σ H1 fun vs H2 => sp (x :: (vs ++ [])) H2 Q E') : tMeth C m sp [] E' ta t σ H Q := h
theorem i_methIn {C a dx : Addr} {fs : List (Str × V)} {m : Str} {R : Prop} (h : H a = some (.ins C dx fs)) (l : fs.lookup m = none) (q : R) : ∃ a' dx fs, V.ref a = .ref a' ∧ H a' = some (.ins C dx fs) ∧ fs.lookup m = none ∧ R := ⟨a, dx, fs, rfl, h, l, q⟩
theorem i_make {C : Addr} {sp : Sp} {E' : XK} {t : TA} (h : t σ H fun vs H1 => ∀ x dx, H1 x = none → H1 dx = none → dx ≠ x → sp (.ref x :: (vs ++ [])) (upd (upd H1 dx (.own x)) x (.ins C dx [])) (fun v H2 => v = .non ∧ Q (.ref x) H2) E') : tMake C sp [] E' t σ H Q := h
theorem i_dnew (h : ∀ p, H p = none → Q (.ref p) (upd H p (.dK []))) : tDNewK σ H Q := h
theorem i_dget2 {td ty tx : TE} (h : td σ H fun x H1 => ∃ a, x = .ref a ∧ IsD H1 a ∧ ty σ H1 fun y H2 => tx σ H2 fun z H3 => ∃ o, DGet H3 a y o ∧ Q (o.getD z) H3) : tDGet2 td ty tx σ H Q := h
theorem i_din {td ty : TE} (h : ty σ H fun y H1 => td σ H1 fun x H2 => ∃ a o, x = .ref a ∧ DGet H2 a y o ∧ Q (.bl o.isSome) H2) : tDIn ty td σ H Q := h
theorem i_dput {td ty tv : TE} (h : tv σ H fun v H1 => td σ H1 fun x H2 => ty σ H2 fun y H3 => ∃ a H4, x = .ref a ∧ DPut H3 a y v H4 ∧ D.nx σ H4) : sDPut td ty tv D σ H := h
/-! ### operations on values -/
theorem i_addI {i j : Int} (q : Q (.int (i + j)) H) : rAddA K (.int i) (.int j) H Q := .inl ⟨i, j, rfl, rfl, q⟩
theorem i_addL {a b : Addr} {xs ys : List V} (ha : H a = some (.lst xs)) (hb : H b = some (.lst ys)) (hl : xs.length + ys.length ≤ sizeLine) (q : ∀ p, H p = none → Q (.ref p) (upd H p (.lst (xs ++ ys)))) : rAddA K (.ref a) (.ref b) H Q :=
  .inr (.inl ⟨a, b, xs, ys, rfl, rfl, ha, hb, hl, q⟩)
theorem i_addT {a b : Addr} {xs ys : List V} (ha : SqT K H a xs) (hb : SqT K H b ys) (hl : xs.length + ys.length ≤ sizeLine) (q1 : xs = [] → Q (.ref b) H) (q2 : xs ≠ [] → ys = [] → Q (.ref a) H)
    (q : xs ≠ [] → ys ≠ [] → ∀ p, H p = none → Q (.ref p) (upd H p (.tup (xs ++ ys)))) : rAddA K (.ref a) (.ref b) H Q := .inr (.inr ⟨a, b, xs, ys, rfl, rfl, ha, hb, hl, q1, q2, q⟩)
theorem i_addI2 {i j : Int} (q : Q (.int (i + j)) H) : rAdd (.int i) (.int j) H Q := ⟨i, j, rfl, rfl, q⟩
theorem i_subI {i j : Int} (q : Q (.int (i - j)) H) : rSubI (.int i) (.int j) H Q := ⟨i, j, rfl, rfl, q⟩
theorem i_mulI {i j : Int} (c : CMul i j) (q : Q (.int (i * j)) H) : rMulA K (.int i) (.int j) H Q := .inl ⟨i, j, rfl, rfl, c, q⟩
theorem i_repL {a : Addr} {k : Int} {xs : List V} (h : H a = some (.lst xs)) (h1 : -(2 ^ 63) ≤ k) (h2 : k < 2 ^ 63) (hz : xs.length * k.toNat ≤ sizeLine) (q : ∀ p, H p = none → Q (.ref p) (upd H p (.lst (List.replicate k.toNat xs).flatten))) :
    rMulA K (.ref a) (.int k) H Q := .inr (.inl ⟨a, k, xs, rfl, rfl, h, h1, h2, hz, q⟩)
theorem i_repT {a : Addr} {k : Int} {xs : List V} (h : SqT K H a xs) (hn : xs ≠ []) (h1 : 2 ≤ k) (h2 : k ≤ 1000) (hz : xs.length ≤ 1000) (q : ∀ p, H p = none → Q (.ref p) (upd H p (.tup (List.replicate k.toNat xs).flatten))) :
    rMulA K (.ref a) (.int k) H Q := .inr (.inr ⟨a, k, xs, rfl, rfl, h, hn, h1, h2, hz, q⟩)
theorem i_divI {i j : Int} (c : CDiv i j) (q : Q (.int (i / j)) H) : rDivI (.int i) (.int j) H Q := ⟨i, j, rfl, rfl, c, q⟩
theorem i_modI {i j : Int} (c : 0 < j) (q : Q (.int (i % j)) H) : rModI (.int i) (.int j) H Q := ⟨i, j, rfl, rfl, c, q⟩
theorem i_powI {i j : Int} (c : CPow i j) (q : Q (.int (i ^ j.toNat)) H) : rPowI (.int i) (.int j) H Q := ⟨i, j, rfl, rfl, c, q⟩
theorem i_ltI {i j : Int} (q : Q (.bl (decide (i < j))) H) : rLtI (.int i) (.int j) H Q := ⟨i, j, rfl, rfl, q⟩
theorem i_leI {i j : Int} (q : Q (.bl (decide (i ≤ j))) H) : rLeI (.int i) (.int j) H Q := ⟨i, j, rfl, rfl, q⟩
theorem i_gtI {i j : Int} (q : Q (.bl (decide (j < i))) H) : rGtI (.int i) (.int j) H Q := ⟨i, j, rfl, rfl, q⟩
theorem i_geI {i j : Int} (q : Q (.bl (decide (j ≤ i))) H) : rGeI (.int i) (.int j) H Q := ⟨i, j, rfl, rfl, q⟩
theorem i_isN {x : V} (q : Q (.bl (decide (x = .non))) H) : rIsN x .non H Q := ⟨rfl, q⟩
theorem i_notN {x : V} (q : Q (.bl (!decide (x = .non))) H) : rNotN x .non H Q := ⟨rfl, q⟩
theorem i_isB {a b : Bool} (q : Q (.bl (decide (a = b))) H) : rIsB (.bl a) (.bl b) H Q := ⟨a, b, rfl, rfl, q⟩
theorem i_notB {a b : Bool} (q : Q (.bl (!decide (a = b))) H) : rNotB (.bl a) (.bl b) H Q := ⟨a, b, rfl, rfl, q⟩
theorem i_ixL {p : Addr} {xs : List V} {i : Int} {v : V} (h : SqL K H p xs) (ha : atI xs i = some v) (q : Q v H) : rIx K (.ref p) (.int i) H Q := .inl ⟨p, xs, i, v, rfl, rfl, h, ha, q⟩
theorem i_ixT {p : Addr} {xs : List V} {i : Int} {v : V} (h : SqT K H p xs) (ha : atI xs i = some v) (q : Q v H) : rIx K (.ref p) (.int i) H Q := .inr (.inl ⟨p, xs, i, v, rfl, rfl, h, ha, q⟩)
theorem i_ixLn {p : Addr} {xs : List V} {i : Int} {v : V} (h : SqL K H p xs) (h0 : 0 ≤ i) (ha : xs[i.toNat]? = some v) (q : Q v H) : rIx K (.ref p) (.int i) H Q := i_ixL h (by rw [show i = ((i.toNat : Nat) : Int) by omega, atI_nat]; exact ha) q
theorem i_ixTn {p : Addr} {xs : List V} {i : Int} {v : V} (h : SqT K H p xs) (h0 : 0 ≤ i) (ha : xs[i.toNat]? = some v) (q : Q v H) : rIx K (.ref p) (.int i) H Q := i_ixT h (by rw [show i = ((i.toNat : Nat) : Int) by omega, atI_nat]; exact ha) q
theorem i_eqD {x y : V} {d e : PyData} (hd : Dp K H x d) (he : Dp K H y e) (sd : SeqAt.shaped d = true) (se : SeqAt.shaped e = true) (q : Q (.bl (PyData.eqv d e)) H) : rEqD K x y H Q := ⟨d, e, hd, he, sd, se, q⟩
theorem i_neD {x y : V} {d e : PyData} (hd : Dp K H x d) (he : Dp K H y e) (sd : SeqAt.shaped d = true) (se : SeqAt.shaped e = true) (q : Q (.bl (!PyData.eqv d e)) H) : rNeD K x y H Q := ⟨d, e, hd, he, sd, se, q⟩
theorem i_eqI {i j : Int} (q : Q (.bl (i == j)) H) : rEqD K (.int i) (.int j) H Q := ⟨.int i, .int j, .int i, .int j, rfl, rfl, q⟩
theorem i_neI {i j : Int} (q : Q (.bl (!(i == j))) H) : rNeD K (.int i) (.int j) H Q := ⟨.int i, .int j, .int i, .int j, rfl, rfl, q⟩
theorem i_eqS {i j : Str} (hi : SeqAt.shaped (.str i) = true) (hj : SeqAt.shaped (.str j) = true) (q : Q (.bl (i == j)) H) : rEqD K (.str i) (.str j) H Q := ⟨.str i, .str j, .str i, .str j, hi, hj, q⟩
theorem i_neS {i j : Str} (hi : SeqAt.shaped (.str i) = true) (hj : SeqAt.shaped (.str j) = true) (q : Q (.bl (!(i == j))) H) : rNeD K (.str i) (.str j) H Q := ⟨.str i, .str j, .str i, .str j, hi, hj, q⟩
theorem i_eqB {i j : Bool} (q : Q (.bl (i == j)) H) : rEqD K (.bl i) (.bl j) H Q := ⟨.bool i, .bool j, .bl i, .bl j, rfl, rfl, q⟩
theorem i_neB {i j : Bool} (q : Q (.bl (!(i == j))) H) : rNeD K (.bl i) (.bl j) H Q := ⟨.bool i, .bool j, .bl i, .bl j, rfl, rfl, q⟩
theorem i_lenL {p : Addr} {xs : List V} (h : SqL K H p xs) (q : Q (.int (xs.length : Int)) H) : rLenA K [.ref p] H Q := ⟨_, xs.length, rfl, .inl ⟨xs, h, rfl⟩, q⟩
theorem i_lenT {p : Addr} {xs : List V} (h : SqT K H p xs) (q : Q (.int (xs.length : Int)) H) : rLenA K [.ref p] H Q := ⟨_, xs.length, rfl, .inr ⟨xs, h, rfl⟩, q⟩
theorem i_absI {i : Int} (q : Q (.int (if i < 0 then -i else i)) H) : rAbsI [.int i] H Q := ⟨i, rfl, q⟩
theorem i_intI {i : Int} (q : Q (.int i) H) : rIntC [.int i] H Q := .inl ⟨i, rfl, q⟩
theorem i_intB {b : Bool} (q : Q (.int (if b then 1 else 0)) H) : rIntC [.bl b] H Q := .inr ⟨b, rfl, q⟩
theorem i_min2 {i j : Int} (q : Q (.int (if j < i then j else i)) H) : rMin2 [.int i, .int j] H Q := ⟨i, j, rfl, q⟩
theorem i_max2 {i j : Int} (q : Q (.int (if j > i then j else i)) H) : rMax2 [.int i, .int j] H Q := ⟨i, j, rfl, q⟩
theorem i_listL {p : Addr} {xs : List V} (h : SqL K H p xs) (q : ∀ l, H l = none → Q (.ref l) (upd H l (.lst xs))) : rListC K [.ref p] H Q := ⟨p, xs, rfl, .inl h, q⟩
theorem i_listT {p : Addr} {xs : List V} (h : SqT K H p xs) (q : ∀ l, H l = none → Q (.ref l) (upd H l (.lst xs))) : rListC K [.ref p] H Q := ⟨p, xs, rfl, .inr h, q⟩
theorem i_tupL {p : Addr} {xs : List V} (h : SqL K H p xs) (q : ∀ l, H l = none → Q (.ref l) (upd H l (.tup xs))) : rTupC K [.ref p] H Q := ⟨p, xs, rfl, .inl ⟨h, q⟩⟩
theorem i_tupT {p : Addr} {xs : List V} (h : SqT K H p xs) (q : Q (.ref p) H) : rTupC K [.ref p] H Q := ⟨p, xs, rfl, .inr ⟨h, q⟩⟩
theorem i_app {l : Addr} {xs : List V} {y : V} (h : H l = some (.lst xs)) (hz : xs.length < sizeLine) (q : Q .non (upd H l (.lst (xs ++ [y])))) : rAppend (.ref l) [y] H Q := ⟨l, xs, y, rfl, rfl, h, hz, q⟩
theorem i_popL {l : Addr} {xs : List V} {y : V} (h : H l = some (.lst xs)) (hy : xs[xs.length - 1]? = some y) (q : Q y (upd H l (.lst xs.dropLast))) : rPop (.ref l) [] H Q := ⟨l, xs, y, rfl, rfl, h, hy, q⟩
theorem i_tyL {l : Addr} {xs : List V} {R : Prop} (h : SqL K H l xs) (q : R) : tyV K "list" (.ref l) H ∧ R := ⟨.inl ⟨rfl, _, h⟩, q⟩
theorem i_all {a : Addr} {bs : List Bool} (h : SqL K H a (bs.map V.bl)) (q : Q (.bl (bs.all id)) H) : rAll K [.ref a] H Q := ⟨a, bs, rfl, h, q⟩
theorem i_any {a : Addr} {bs : List Bool} (h : SqL K H a (bs.map V.bl)) (q : Q (.bl (bs.any id)) H) : rAny K [.ref a] H Q := ⟨a, bs, rfl, h, q⟩
theorem i_ite2 {c : Bool} {A B : Prop} (h1 : c = true → A) (h2 : c = false → B) : if c = true then A else B := by
  cases c with
  | true => exact h1 rfl
  | false => exact iteF (h2 rfl)
theorem i_iteT {c : Bool} {A B : Prop} (hc : c = true) (h : A) : if c = true then A else B := by subst hc; exact h
theorem i_iteF {c : Bool} {A B : Prop} (hc : c = false) (h : B) : if c = true then A else B := by subst hc; exact iteF h
/-! ### what stands -/
/-- all that H knows stands but what lies in fp -/
def Stays (fp : List Addr) (H H' : Hp) : Prop := ∀ b o, H b = some o → b ∉ fp → H' b = some o
theorem Stays.refl {fp : List Addr} (H : Hp) : Stays fp H H := fun _ _ h _ => h
theorem Stays.trans {fp : List Addr} {H H1 H2 : Hp} (a : Stays fp H H1) (b : Stays fp H1 H2) : Stays fp H H2 := fun c o h n => b c o (a c o h n) n
theorem Stays.wide {fp gp : List Addr} {H H' : Hp} (a : Stays fp H H') (h : ∀ b, b ∈ fp → b ∈ gp) : Stays gp H H' := fun c o e n => a c o e fun m => n (h c m)
theorem Stays.same {fp : List Addr} {H H' : Hp} (a : Same H H') : Stays fp H H' := fun c o e _ => a c o e
theorem Stays.get {fp : List Addr} {H H' : Hp} (a : Stays fp H H') {b : Addr} {o : HO} (h : H b = some o) (n : b ∉ fp) : H' b = some o := a b o h n
theorem Stays.put {fp : List Addr} {H H' : Hp} (a : Stays fp H H') {p : Addr} {o : HO} (h : p ∈ fp) : Stays fp H (L2.upd H' p o) := fun b u e n => by
  have hb : b ≠ p := fun z => n (z ▸ h)
  rw [upd_ne hb]
  exact a b u e n
theorem Stays.new {fp : List Addr} {H H' : Hp} (a : Stays fp H H') {p : Addr} {o : HO} (h : H p = none) : Stays fp H (upd H' p o) := fun b u e n => by
  rw [upd_ne (ne_of_none e h)]
  exact a b u e n
theorem same_new {H H' : Hp} (a : Same H H') {p : Addr} {o : HO} (h : H p = none) : Same H (upd H' p o) := fun b u e => by
  rw [upd_ne (ne_of_none e h)]
  exact a b u e
theorem Stays.free {fp : List Addr} {H H' : Hp} (a : Stays fp H H') {p : Addr} (hf : p ∉ fp) (h : H' p = none) : H p = none := by
  cases e : H p with
  | none => rfl
  | some o => rw [a p o e hf] at h; cases h
theorem same_free {H H' : Hp} (a : Same H H') {p : Addr} (h : H' p = none) : H p = none := by
  cases e : H p with
  | none => rfl
  | some o => rw [a p o e] at h; cases h
theorem same_nx {H H' : Hp} (a : Same H H') {p : Addr} {o : HO} (h : H' p = none) : Same H (upd H' p o) := same_new a (same_free a h)
theorem ne_fresh {H : Hp} {a b : Addr} {o : HO} (h' : H b = none) (h : H a = some o) : a ≠ b := ne_of_none h h'
theorem upd_at {H : Hp} {a b : Addr} {o u : HO} (n : b ≠ a) (h : H b = some u) : upd H a o b = some u := by rw [upd_ne n]; exact h
theorem upd_no {H : Hp} {a b : Addr} {o : HO} (n : b ≠ a) (h : H b = none) : upd H a o b = none := by rw [upd_ne n]; exact h
theorem Same.get {H H' : Hp} (a : Same H H') {b : Addr} {o : HO} (h : H b = some o) : H' b = some o := a b o h
theorem sqL {K : PySem.W.Frag} {H : Hp} {a : Addr} {xs : List V} (h : H a = some (.lst xs)) : SqL K H a xs := SqL.of h
theorem sqT {K : PySem.W.Frag} {H : Hp} {a : Addr} {xs : List V} (h : H a = some (.tup xs)) : SqT K H a xs := SqT.of h
end Rb
/-! Rb: data that stands in the heap (Dp), what keeps it, isinstance, in, ==. -/
namespace Rb
open PySem PySem.Spec PyProof.Rows L2
variable {K : PySem.W.Frag} {σ : L2.St} {H H' : Hp} {Q : VK}
/-! ### tuples stay -/
def isTupO : HO → Bool
  | .tup _ => true
  | .frz _ (.tup _) => true
  | _ => false
/-- every tuple stands -/
def Keep (H H' : Hp) : Prop := ∀ a u, H a = some u → isTupO u = true → H' a = some u
theorem Keep.refl (H : Hp) : Keep H H := fun _ _ h _ => h
theorem Keep.trans {H H1 H2 : Hp} (a : Keep H H1) (b : Keep H1 H2) : Keep H H2 := fun c u h t => b c u (a c u h t) t
theorem Keep.same (s : Same H H') : Keep H H' := fun a u h _ => s a u h
theorem Keep.stays {fp : List Addr} (s : Stays fp H H') (n : ∀ a ∈ fp, ∀ u, H a = some u → isTupO u = false) : Keep H H' := fun a u h t => s a u h fun m => by
  rw [n a m u h] at t
  cases t
theorem Keep.upd (k : Keep H H') {p : Addr} {o : HO} (n : ∀ u, H p = some u → isTupO u = false) : Keep H (L2.upd H' p o) := fun a u h t => by
  have hb : a ≠ p := fun z => by
    subst z
    rw [n u h] at t
    cases t
  rw [upd_ne hb]
  exact k a u h t
theorem Keep.new (k : Keep H H') {p : Addr} {o : HO} (h : H p = none) : Keep H (L2.upd H' p o) := k.upd fun u e => by rw [h] at e; cases e
theorem Keep.rd (k : Keep H H') {a : Addr} {xs : List V} (h : Rd H a (.tup xs)) : Rd H' a (.tup xs) := by
  rcases h with h | ⟨o, h⟩
  · exact .inl (k a _ h rfl)
  · exact .inr ⟨o, k a _ h rfl⟩
theorem Keep.sq (k : Keep H H') {a : Addr} {xs : List V} (h : SqT K H a xs) : SqT K H' a xs := by
  rcases h with h | h
  · exact .inl (k.rd h)
  · exact .inr h
mutual
/-- no list and no dict within -/
def tupOnly : PyData → Bool
  | .none | .bool _ | .int _ | .str _ => true
  | .tuple xs => tupAll xs
  | .list _ | .dict _ => false
def tupAll : List PyData → Bool
  | [] => true
  | x :: xs => tupOnly x && tupAll xs
end
mutual
theorem Dp.keep (k : Keep H H') : ∀ (d : PyData) (v : V), Dp K H v d → tupOnly d = true → Dp K H' v d
  | .none, _, h, _ => by cases h; exact .non
  | .bool b, _, h, _ => by cases h; exact .bl b
  | .int i, _, h, _ => by cases h; exact .int i
  | .str x, _, h, _ => by cases h; exact .str x
  | .list ds, _, _, t => by cases t
  | .dict _, _, _, t => by cases t
  | .tuple ds, _, h, t => by
    cases h with
    | tup hs ha => exact .tup (k.sq hs) (DpAll.keep k ds _ ha t)
theorem DpAll.keep (k : Keep H H') : ∀ (ds : List PyData) (vs : List V), DpAll K H vs ds → tupAll ds = true → DpAll K H' vs ds
  | [], _, h, _ => by cases h; exact .nil
  | d :: ds, _, h, t => by
    have t' : (tupOnly d && tupAll ds) = true := t
    rw [Bool.and_eq_true] at t'
    cases h with
    | cons h1 h2 => exact .cons (Dp.keep k d _ h1 t'.1) (DpAll.keep k ds _ h2 t'.2)
end
theorem sqL_same {H H' : Hp} (s : Same H H') {a : Addr} {xs : List V} (h : SqL K H a xs) : SqL K H' a xs := s.seq h
mutual
/-- where all stands -/
theorem Dp.same (s : Same H H') : ∀ (d : PyData) (v : V), Dp K H v d → Dp K H' v d
  | .none, _, h => by cases h; exact .non
  | .bool b, _, h => by cases h; exact .bl b
  | .int i, _, h => by cases h; exact .int i
  | .str x, _, h => by cases h; exact .str x
  | .list ds, _, h => by
    cases h with
    | lst hs ha => exact .lst (s.seq hs) (DpAll.same s ds _ ha)
  | .dict _, _, h => by cases h
  | .tuple ds, _, h => by
    cases h with
    | tup hs ha => exact .tup ((Keep.same s).sq hs) (DpAll.same s ds _ ha)
theorem DpAll.same (s : Same H H') : ∀ (ds : List PyData) (vs : List V), DpAll K H vs ds → DpAll K H' vs ds
  | [], _, h => by cases h; exact .nil
  | d :: ds, _, h => by
    cases h with
    | cons h1 h2 => exact .cons (Dp.same s d _ h1) (DpAll.same s ds _ h2)
end
theorem DpAll.length : ∀ {vs : List V} {ds : List PyData}, DpAll K H vs ds → vs.length = ds.length
  | _, _, .nil => rfl
  | _, _, .cons _ t => congrArg Nat.succ (DpAll.length t)
theorem DpAll.get : ∀ {vs : List V} {ds : List PyData} {i : Nat} {v : V}, DpAll K H vs ds → vs[i]? = some v → ∃ d, ds[i]? = some d ∧ Dp K H v d
  | _, _, _, _, .nil, e => by simp at e
  | _, _, 0, _, .cons h _, e => by simp at e; subst e; exact ⟨_, rfl, h⟩
  | _, _, i + 1, v, .cons _ t, e => by
    obtain ⟨d, h1, h2⟩ := DpAll.get (i := i) (v := v) t (by simpa using e)
    exact ⟨d, by simpa using h1, h2⟩
theorem DpAll.getD : ∀ {vs : List V} {ds : List PyData} {i : Nat} {d : PyData}, DpAll K H vs ds → ds[i]? = some d → ∃ v, vs[i]? = some v ∧ Dp K H v d
  | _, _, _, _, .nil, e => by simp at e
  | _, _, 0, _, .cons h _, e => by simp at e; subst e; exact ⟨_, rfl, h⟩
  | _, _, i + 1, d, .cons _ t, e => by
    obtain ⟨v, h1, h2⟩ := DpAll.getD (i := i) (d := d) t (by simpa using e)
    exact ⟨v, by simpa using h1, h2⟩
theorem DpAll.app : ∀ {vs ws : List V} {ds es : List PyData}, DpAll K H vs ds → DpAll K H ws es → DpAll K H (vs ++ ws) (ds ++ es)
  | _, _, _, _, .nil, h => h
  | _, _, _, _, .cons a t, h => .cons a (DpAll.app t h)
theorem DpAll.set : ∀ {vs : List V} {ds : List PyData} (i : Nat) {v : V} {d : PyData}, DpAll K H vs ds → Dp K H v d → DpAll K H (vs.set i v) (ds.set i d)
  | _, _, _, _, _, .nil, _ => .nil
  | _, _, 0, _, _, .cons _ t, h => .cons h t
  | _, _, i + 1, _, _, .cons a t, h => .cons a (DpAll.set i t h)
theorem DpAll.take : ∀ {vs : List V} {ds : List PyData} (n : Nat), DpAll K H vs ds → DpAll K H (vs.take n) (ds.take n)
  | _, _, 0, _ => .nil
  | _, _, _ + 1, .nil => .nil
  | _, _, n + 1, .cons a t => .cons a (DpAll.take n t)
theorem DpAll.drop : ∀ {vs : List V} {ds : List PyData} (n : Nat), DpAll K H vs ds → DpAll K H (vs.drop n) (ds.drop n)
  | _, _, 0, r => r
  | _, _, _ + 1, .nil => .nil
  | _, _, n + 1, .cons _ t => DpAll.drop n t
theorem DpAll.rep {v : V} {d : PyData} (h : Dp K H v d) : ∀ n : Nat, DpAll K H (List.replicate n v) (List.replicate n d)
  | 0 => .nil
  | n + 1 => .cons h (DpAll.rep h n)
theorem DpAll.ints : ∀ ns : List Int, DpAll K H (ns.map V.int) (ns.map PyData.int)
  | [] => .nil
  | n :: ns => .cons (.int n) (DpAll.ints ns)
/-- a tuple's data -/
theorem Dp.tupOf {v : V} {ds : List PyData} (h : Dp K H v (.tuple ds)) : ∃ a xs, v = .ref a ∧ SqT K H a xs ∧ DpAll K H xs ds := by
  cases h with
  | tup hs ha => exact ⟨_, _, rfl, hs, ha⟩
theorem Dp.intOf {v : V} {i : Int} (h : Dp K H v (.int i)) : v = .int i := by cases h; rfl
theorem Dp.strOf {v : V} {x : Str} (h : Dp K H v (.str x)) : v = .str x := by cases h; rfl
theorem Dp.nonOf {v : V} (h : Dp K H v .none) : v = .non := by cases h; rfl
theorem Dp.blOf {v : V} {b : Bool} (h : Dp K H v (.bool b)) : v = .bl b := by cases h; rfl
/-! ### isinstance -/
def tyN : PyData → String
  | .none => "NoneType" | .bool _ => "bool" | .int _ => "int" | .str _ => "str" | .list _ => "list" | .tuple _ => "tuple" | .dict _ => "dict"
theorem Dp.ty {v : V} {d : PyData} (h : Dp K H v d) : TyX K H v (.type (tyN d)) := by
  cases h with
  | non => exact .base .non
  | bl b => exact .base (.bl b)
  | int i => exact .base (.int i)
  | str x => exact .base (.str x)
  | lst hs _ =>
    rcases hs with (h | ⟨o, h⟩) | ⟨o, its, n, hk, hc, _⟩
    · exact .base (.lst h)
    · exact .base (.frz h)
    · exact .kList hk hc
  | tup hs _ =>
    rcases hs with (h | ⟨o, h⟩) | ⟨o, its, n, hk, hc, _⟩
    · exact .base (.tup h)
    · exact .fTuple h
    · exact .kTuple hk hc
def instB (d : PyData) (n : String) : Bool := match d, n with
  | .bool _, "int" => true
  | .bool _, "bool" => true
  | .int _, "int" => true
  | .str _, "str" => true
  | .list _, "list" => true
  | .tuple _, "tuple" => true
  | _, _ => false
theorem i_isi {v : V} {d : PyData} {n : String} (h : Dp K H v d) (e : PySem.W.kitOne K (.type (tyN d)) (.type n) = some (instB d n)) (q : Q (.bl (instB d n)) H) : rIsi K [v, .ty n] H Q :=
  ⟨v, .ty n, _, _, _, rfl, .ty n, Dp.ty h, e, q⟩
theorem kit_int (d : PyData) : PySem.W.kitOne K (.type (tyN d)) (.type "int") = some (instB d "int") := by
  cases d with
  | none => exact kit_ty (show kitB "NoneType" "int" = some false by decide +kernel)
  | bool _ => exact kit_ty (show kitB "bool" "int" = some true by decide +kernel)
  | int _ => exact kit_ty (show kitB "int" "int" = some true by decide +kernel)
  | str _ => exact kit_ty (show kitB "str" "int" = some false by decide +kernel)
  | list _ => exact kit_ty (show kitB "list" "int" = some false by decide +kernel)
  | tuple _ => exact kit_ty (show kitB "tuple" "int" = some false by decide +kernel)
  | dict _ => exact kit_ty (show kitB "dict" "int" = some false by decide +kernel)
theorem kit_bool (d : PyData) : PySem.W.kitOne K (.type (tyN d)) (.type "bool") = some (instB d "bool") := by
  cases d with
  | none => exact kit_ty (show kitB "NoneType" "bool" = some false by decide +kernel)
  | bool _ => exact kit_ty (show kitB "bool" "bool" = some true by decide +kernel)
  | int _ => exact kit_ty (show kitB "int" "bool" = some false by decide +kernel)
  | str _ => exact kit_ty (show kitB "str" "bool" = some false by decide +kernel)
  | list _ => exact kit_ty (show kitB "list" "bool" = some false by decide +kernel)
  | tuple _ => exact kit_ty (show kitB "tuple" "bool" = some false by decide +kernel)
  | dict _ => exact kit_ty (show kitB "dict" "bool" = some false by decide +kernel)
theorem kit_str (d : PyData) : PySem.W.kitOne K (.type (tyN d)) (.type "str") = some (instB d "str") := by
  cases d with
  | none => exact kit_ty (show kitB "NoneType" "str" = some false by decide +kernel)
  | bool _ => exact kit_ty (show kitB "bool" "str" = some false by decide +kernel)
  | int _ => exact kit_ty (show kitB "int" "str" = some false by decide +kernel)
  | str _ => exact kit_ty (show kitB "str" "str" = some true by decide +kernel)
  | list _ => exact kit_ty (show kitB "list" "str" = some false by decide +kernel)
  | tuple _ => exact kit_ty (show kitB "tuple" "str" = some false by decide +kernel)
  | dict _ => exact kit_ty (show kitB "dict" "str" = some false by decide +kernel)
theorem kit_tuple (d : PyData) : PySem.W.kitOne K (.type (tyN d)) (.type "tuple") = some (instB d "tuple") := by
  cases d with
  | none => exact kit_ty (show kitB "NoneType" "tuple" = some false by decide +kernel)
  | bool _ => exact kit_ty (show kitB "bool" "tuple" = some false by decide +kernel)
  | int _ => exact kit_ty (show kitB "int" "tuple" = some false by decide +kernel)
  | str _ => exact kit_ty (show kitB "str" "tuple" = some false by decide +kernel)
  | list _ => exact kit_ty (show kitB "list" "tuple" = some false by decide +kernel)
  | tuple _ => exact kit_ty (show kitB "tuple" "tuple" = some true by decide +kernel)
  | dict _ => exact kit_ty (show kitB "dict" "tuple" = some false by decide +kernel)
theorem kit_list (d : PyData) : PySem.W.kitOne K (.type (tyN d)) (.type "list") = some (instB d "list") := by
  cases d with
  | none => exact kit_ty (show kitB "NoneType" "list" = some false by decide +kernel)
  | bool _ => exact kit_ty (show kitB "bool" "list" = some false by decide +kernel)
  | int _ => exact kit_ty (show kitB "int" "list" = some false by decide +kernel)
  | str _ => exact kit_ty (show kitB "str" "list" = some false by decide +kernel)
  | list _ => exact kit_ty (show kitB "list" "list" = some true by decide +kernel)
  | tuple _ => exact kit_ty (show kitB "tuple" "list" = some false by decide +kernel)
  | dict _ => exact kit_ty (show kitB "dict" "list" = some false by decide +kernel)
theorem i_isiInt {v : V} {d : PyData} (h : Dp K H v d) (q : Q (.bl (instB d "int")) H) : rIsi K [v, .ty "int"] H Q := i_isi h (kit_int d) q
theorem i_isiBool {v : V} {d : PyData} (h : Dp K H v d) (q : Q (.bl (instB d "bool")) H) : rIsi K [v, .ty "bool"] H Q := i_isi h (kit_bool d) q
theorem i_isiStr {v : V} {d : PyData} (h : Dp K H v d) (q : Q (.bl (instB d "str")) H) : rIsi K [v, .ty "str"] H Q := i_isi h (kit_str d) q
theorem i_isiTup {v : V} {d : PyData} (h : Dp K H v d) (q : Q (.bl (instB d "tuple")) H) : rIsi K [v, .ty "tuple"] H Q := i_isi h (kit_tuple d) q
theorem i_isiList {v : V} {d : PyData} (h : Dp K H v d) (q : Q (.bl (instB d "list")) H) : rIsi K [v, .ty "list"] H Q := i_isi h (kit_list d) q
/-! ### shapes -/
theorem shaped_int (i : Int) : SeqAt.shaped (.int i) = true := rfl
theorem shaped_none : SeqAt.shaped .none = true := rfl
theorem shaped_bool (b : Bool) : SeqAt.shaped (.bool b) = true := rfl
/-! ### slices of tuples -/
theorem cut_take (xs : List V) (n : Nat) (h : n ≤ xs.length) : cutV xs none (some (n : Int)) = xs.take n := by
  unfold cutV
  rw [HT.sIx_none, HT.sIx_nat, List.drop_zero, Nat.sub_zero, Nat.min_eq_left h]
theorem cut_drop (xs : List V) (n : Nat) (h : n ≤ xs.length) : cutV xs (some (n : Int)) none = xs.drop n := by
  unfold cutV
  rw [HT.sIx_none, HT.sIx_nat, Nat.min_eq_left h]
  exact List.take_of_length_le (by simp)
theorem i_slTake {a : Addr} {xs : List V} {n : Nat} (hs : SqT K H a xs) (h : n ≤ xs.length) (q : ∀ (p : Addr) (H' : Hp), Same H H' → SqT K H' p (xs.take n) → Q (.ref p) H') : rSlX K (.ref a) none (some (n : Int)) H Q := by
  refine .inr ⟨a, xs, rfl, hs, fun w => ?_, fun _ p hp => ?_⟩
  · obtain ⟨_, w2⟩ := w
    rw [HT.sIx_nat, Nat.min_eq_left h] at w2
    exact q a H (Same.refl H) (by rw [w2, List.take_length]; exact hs)
  · rw [cut_take xs n h]
    exact q p _ (same_new (Same.refl H) hp) (sqT upd_same)
theorem i_slDrop {a : Addr} {xs : List V} {n : Nat} (hs : SqT K H a xs) (h : n ≤ xs.length) (q : ∀ (p : Addr) (H' : Hp), Same H H' → SqT K H' p (xs.drop n) → Q (.ref p) H') : rSlX K (.ref a) (some (n : Int)) none H Q := by
  refine .inr ⟨a, xs, rfl, hs, fun w => ?_, fun _ p hp => ?_⟩
  · obtain ⟨w1, _⟩ := w
    rw [HT.sIx_nat, Nat.min_eq_left h] at w1
    exact q a H (Same.refl H) (by rw [w1, List.drop_zero]; exact hs)
  · rw [cut_drop xs n h]
    exact q p _ (same_new (Same.refl H) hp) (sqT upd_same)
/-- t + u -/
theorem i_catT {a b : Addr} {xs ys : List V} (ha : SqT K H a xs) (hb : SqT K H b ys) (hl : xs.length + ys.length ≤ sizeLine) (q : ∀ (p : Addr) (H' : Hp), Same H H' → SqT K H' p (xs ++ ys) → Q (.ref p) H') : rAddA K (.ref a) (.ref b) H Q := by
  refine i_addT ha hb hl (fun e => ?_) (fun _ e => ?_) fun _ _ p hp => ?_
  · subst e
    exact q b H (Same.refl H) hb
  · subst e
    exact q a H (Same.refl H) (by rw [List.append_nil]; exact ha)
  · exact q p _ (same_new (Same.refl H) hp) (sqT upd_same)
/-! ### shapes, step by step -/
def Sh (n : Nat) (d : PyData) : Prop := d.canLay0 = true ∧ d.depth ≤ n
theorem Sh.shaped {n : Nat} {d : PyData} (h : Sh n d) (hn : n ≤ 64) : SeqAt.shaped d = true := by
  unfold SeqAt.shaped
  rw [h.1, decide_eq_true (Nat.le_trans h.2 hn)]
  rfl
theorem Sh.refl {n : Nat} {d : PyData} (h : Sh n d) : PyData.eqv d d = true := SeqAt.eqv_refl d h.1
theorem Sh.int {n : Nat} (i : Int) : Sh (n + 1) (.int i) := ⟨by simp [PyData.canLay0], by simp [PyData.depth]⟩
theorem Sh.none {n : Nat} : Sh (n + 1) .none := ⟨by simp [PyData.canLay0], by simp [PyData.depth]⟩
theorem Sh.bool {n : Nat} (b : Bool) : Sh (n + 1) (.bool b) := ⟨by simp [PyData.canLay0], by simp [PyData.depth]⟩
theorem Sh.str {n : Nat} (x : Str) (h : (PyData.str x).canLay0 = true) : Sh (n + 1) (.str x) := ⟨h, by simp [PyData.depth]⟩
theorem Sh.all {n : Nat} : ∀ ds : List PyData, (∀ d ∈ ds, Sh n d) → PyData.canLayAll0 ds = true ∧ PyData.depthAll ds ≤ n
  | [], _ => ⟨by simp [PyData.canLayAll0], by simp [PyData.depthAll]⟩
  | d :: ds, h => by
    have h1 := h d (by simp)
    have h2 := Sh.all ds fun e m => h e (by simp [m])
    refine ⟨by simp [PyData.canLayAll0, h1.1, h2.1], ?_⟩
    have a := h1.2
    have b := h2.2
    simp only [PyData.depthAll]
    omega
theorem Sh.tup {n : Nat} {ds : List PyData} (h : ∀ d ∈ ds, Sh n d) : Sh (n + 1) (.tuple ds) := by
  have a := Sh.all ds h
  refine ⟨by simp [PyData.canLay0, a.1], ?_⟩
  have b := a.2
  simp only [PyData.depth]
  omega
theorem Sh.lst {n : Nat} {ds : List PyData} (h : ∀ d ∈ ds, Sh n d) : Sh (n + 1) (.list ds) := by
  have a := Sh.all ds h
  refine ⟨by simp [PyData.canLay0, a.1], ?_⟩
  have b := a.2
  simp only [PyData.depth]
  omega
theorem Sh.mono {m n : Nat} {d : PyData} (h : Sh m d) (k : m ≤ n) : Sh n d := ⟨h.1, Nat.le_trans h.2 k⟩
theorem Sh.tup1 {n : Nat} {a : PyData} (ha : Sh n a) : Sh (n + 1) (.tuple [a]) := Sh.tup (by simp [ha])
theorem Sh.tup2 {n : Nat} {a b : PyData} (ha : Sh n a) (hb : Sh n b) : Sh (n + 1) (.tuple [a, b]) := Sh.tup (by simp [ha, hb])
theorem Sh.tup3 {n : Nat} {a b c : PyData} (ha : Sh n a) (hb : Sh n b) (hc : Sh n c) : Sh (n + 1) (.tuple [a, b, c]) := Sh.tup (by simp [ha, hb, hc])
/-! ### data of a known length -/
theorem Dp.lstOf {v : V} {ds : List PyData} (h : Dp K H v (.list ds)) : ∃ a xs, v = .ref a ∧ SqL K H a xs ∧ DpAll K H xs ds := by
  cases h with
  | lst hs ha => exact ⟨_, _, rfl, hs, ha⟩
theorem DpAll.one {xs : List V} {a : PyData} (h : DpAll K H xs [a]) : ∃ x, xs = [x] ∧ Dp K H x a := by
  obtain _ | ⟨h0, _ | _⟩ := h
  exact ⟨_, rfl, h0⟩
theorem DpAll.two {xs : List V} {a b : PyData} (h : DpAll K H xs [a, b]) : ∃ x y, xs = [x, y] ∧ Dp K H x a ∧ Dp K H y b := by
  obtain _ | ⟨h0, _ | ⟨h1, _ | _⟩⟩ := h
  exact ⟨_, _, rfl, h0, h1⟩
theorem DpAll.three {xs : List V} {a b c : PyData} (h : DpAll K H xs [a, b, c]) : ∃ x y z, xs = [x, y, z] ∧ Dp K H x a ∧ Dp K H y b ∧ Dp K H z c := by
  obtain _ | ⟨h0, _ | ⟨h1, _ | ⟨h2, _ | _⟩⟩⟩ := h
  exact ⟨_, _, _, rfl, h0, h1, h2⟩
theorem DpAll.four {xs : List V} {a b c d : PyData} (h : DpAll K H xs [a, b, c, d]) : ∃ x y z w, xs = [x, y, z, w] ∧ Dp K H x a ∧ Dp K H y b ∧ Dp K H z c ∧ Dp K H w d := by
  obtain _ | ⟨h0, _ | ⟨h1, _ | ⟨h2, _ | ⟨h3, _ | _⟩⟩⟩⟩ := h
  exact ⟨_, _, _, _, rfl, h0, h1, h2, h3⟩
theorem DpAll.five {xs : List V} {a b c d e : PyData} (h : DpAll K H xs [a, b, c, d, e]) : ∃ x y z w u, xs = [x, y, z, w, u] ∧ Dp K H x a ∧ Dp K H y b ∧ Dp K H z c ∧ Dp K H w d ∧ Dp K H u e := by
  obtain _ | ⟨h0, _ | ⟨h1, _ | ⟨h2, _ | ⟨h3, _ | ⟨h4, _ | _⟩⟩⟩⟩⟩ := h
  exact ⟨_, _, _, _, _, rfl, h0, h1, h2, h3, h4⟩
/-! ### in a row of flat values -/
theorem i_inT {a : Addr} {x : V} {xs : List V} (h : SqT K H a xs) (fx : flatV x = true) (fs : xs.all flatV = true) (q : Q (.bl (inV x xs)) H) : rInA K x (.ref a) H Q := .inl ⟨a, xs, rfl, .inr h, fx, fs, q⟩
theorem i_inL {a : Addr} {x : V} {xs : List V} (h : SqL K H a xs) (fx : flatV x = true) (fs : xs.all flatV = true) (q : Q (.bl (inV x xs)) H) : rInA K x (.ref a) H Q := .inl ⟨a, xs, rfl, .inl h, fx, fs, q⟩
theorem i_niT {a : Addr} {x : V} {xs : List V} (h : SqT K H a xs) (fx : flatV x = true) (fs : xs.all flatV = true) (q : Q (.bl (!inV x xs)) H) : rNiA K x (.ref a) H Q := .inl ⟨a, xs, rfl, .inr h, fx, fs, q⟩
theorem i_niL {a : Addr} {x : V} {xs : List V} (h : SqL K H a xs) (fx : flatV x = true) (fs : xs.all flatV = true) (q : Q (.bl (!inV x xs)) H) : rNiA K x (.ref a) H Q := .inl ⟨a, xs, rfl, .inl h, fx, fs, q⟩
/-! ### whole numbers within bounds -/
def isI : PyData → Bool
  | .int _ => true
  | _ => false
theorem isI_of {d : PyData} (h : isI d = true) : ∃ i, d = .int i := by cases d <;> first | exact ⟨_, rfl⟩ | cases h
theorem isI_inst {d : PyData} (h : instB d "int" = true) (k : (!instB d "bool") = true) : ∃ i, d = .int i := by
  cases d with
  | int i => exact ⟨i, rfl⟩
  | bool b => cases k
  | none => cases h
  | str x => cases h
  | list ds => cases h
  | tuple ds => cases h
  | dict ds => cases h
theorem inst_isI (d : PyData) : (if instB d "int" = true then !instB d "bool" else false) = isI d := by cases d <;> rfl
def within (d : PyData) (lo hi : Int) : Bool := match d with
  | .int i => decide (lo ≤ i) && decide (i ≤ hi)
  | _ => false
theorem within_of {d : PyData} {lo hi : Int} (h : within d lo hi = true) : ∃ i, d = .int i ∧ lo ≤ i ∧ i ≤ hi := by
  cases d with
  | int i =>
    have h' : (decide (lo ≤ i) && decide (i ≤ hi)) = true := h
    rw [Bool.and_eq_true] at h'
    exact ⟨i, rfl, of_decide_eq_true h'.1, of_decide_eq_true h'.2⟩
  | _ => cases h
theorem within_no {d : PyData} {lo hi : Int} (h : isI d = false) : within d lo hi = false := by cases d <;> first | rfl | cases h
def cnt (d : PyData) : Bool := match d with
  | .int i => decide (0 ≤ i)
  | _ => false
theorem cnt_of {d : PyData} (h : cnt d = true) : ∃ i, d = .int i ∧ 0 ≤ i := by
  cases d with
  | int i => exact ⟨i, rfl, of_decide_eq_true h⟩
  | _ => cases h
theorem tup_of {d : PyData} (h : instB d "tuple" = true) : ∃ ds, d = .tuple ds := by cases d <;> first | exact ⟨_, rfl⟩ | cases h
theorem str_of {d : PyData} (h : instB d "str" = true) : ∃ x, d = .str x := by cases d <;> first | exact ⟨_, rfl⟩ | cases h
def shAll (ds : List PyData) : Prop := ∀ d ∈ ds, SeqAt.shaped d = true
/-! ### t[:-1]; a place of a list or a tuple -/
theorem cut_init (xs : List V) (h : 1 ≤ xs.length) : cutV xs none (some (-1)) = xs.take (xs.length - 1) := by
  have e : HT.sIx xs.length xs.length (some (-1)) = xs.length - 1 := by
    show (if (-1 : Int) < 0 then ((-1 : Int) + (xs.length : Int)).toNat else min (-1 : Int).toNat xs.length) = _
    rw [if_pos (by decide)]
    omega
  unfold cutV
  rw [HT.sIx_none, e, List.drop_zero, Nat.sub_zero]
theorem i_slInit {a : Addr} {xs : List V} (hs : SqT K H a xs) (h : 1 ≤ xs.length) (q : ∀ (p : Addr) (H' : Hp), Same H H' → SqT K H' p (xs.take (xs.length - 1)) → Q (.ref p) H') : rSlX K (.ref a) none (some (-1)) H Q := by
  have e : HT.sIx xs.length xs.length (some (-1)) = xs.length - 1 := by
    show (if (-1 : Int) < 0 then ((-1 : Int) + (xs.length : Int)).toNat else min (-1 : Int).toNat xs.length) = _
    rw [if_pos (by decide)]
    omega
  refine .inr ⟨a, xs, rfl, hs, fun w => ?_, fun _ p hp => ?_⟩
  · obtain ⟨_, w2⟩ := w
    rw [e] at w2
    omega
  · rw [cut_init xs h]
    exact q p _ (same_new (Same.refl H) hp) (sqT upd_same)
theorem i_ixS {p : Addr} {xs : List V} {i : Int} {v : V} (h : SqL K H p xs ∨ SqT K H p xs) (h0 : 0 ≤ i) (ha : xs[i.toNat]? = some v) (q : Q v H) : rIx K (.ref p) (.int i) H Q := h.elim (fun h => i_ixLn h h0 ha q) fun h => i_ixTn h h0 ha q
theorem sqS_same {H H' : Hp} (s : Same H H') {p : Addr} {xs : List V} (h : SqL K H p xs ∨ SqT K H p xs) : SqL K H' p xs ∨ SqT K H' p xs := h.imp (sqL_same s) (Keep.same s).sq
theorem i_neR {x y : V} {d : PyData} {n : Nat} (hd : Dp K H x d) (he : Dp K H y d) (sd : Sh n d) (hn : n ≤ 64) (q : Q (.bl false) H) : rNeD K x y H Q := i_neD hd he (sd.shaped hn) (sd.shaped hn) (by rw [sd.refl]; exact q)
theorem i_eqR {x y : V} {d : PyData} {n : Nat} (hd : Dp K H x d) (he : Dp K H y d) (sd : Sh n d) (hn : n ≤ 64) (q : Q (.bl true) H) : rEqD K x y H Q := i_eqD hd he (sd.shaped hn) (sd.shaped hn) (by rw [sd.refl]; exact q)
theorem Sh.of {d : PyData} (h : SeqAt.shaped d = true) : Sh 64 d := by
  unfold SeqAt.shaped at h
  rw [Bool.and_eq_true] at h
  exact ⟨h.1, of_decide_eq_true h.2⟩
/-- what a refusal is told as -/
def refD : PyData := .list [.str "refused", .bool true]
theorem sh_ref : Sh 2 refD := ⟨by decide +kernel, by decide +kernel⟩
/-- 0, 1, .., n - 1 -/
def rangeL (n : Nat) : List V := (List.range n).map fun i : Nat => V.int (i : Int)
theorem rangeL_len (n : Nat) : (rangeL n).length = n := by simp [rangeL]
theorem rangeL_succ (n : Nat) : rangeL (n + 1) = rangeL n ++ [.int (n : Int)] := by simp [rangeL, List.range_succ]
theorem rangeL_dp (n : Nat) : DpAll K H (rangeL n) ((List.range n).map fun i : Nat => PyData.int (i : Int)) := by
  induction n with
  | zero => exact .nil
  | succ n ih =>
    rw [rangeL_succ, List.range_succ, List.map_append]
    exact DpAll.app ih (.cons (.int _) .nil)
theorem range_sh (n : Nat) : Sh 2 (.list ((List.range n).map fun i : Nat => PyData.int (i : Int))) := Sh.lst fun d m => by
  obtain ⟨i, _, rfl⟩ := List.mem_map.mp m
  exact Sh.int _
end Rb
/-! Rb: loops and comprehensions by an invariant of the turn. -/
namespace Rb
open PySem PySem.Spec PyProof.Rows L2
variable {K : PySem.W.Frag} {σ : L2.St} {H : Hp} {D : Ends} {Q : VK} {E : XK}
theorem i_for {wi : TI} {g : TG} {tb : TS} (h : wi σ H fun J H1 => ∃ W : Nat → Nat → L2.St → Hp → Prop, (∃ m, W 0 m σ H1) ∧ ∀ (i m : Nat) (σ : L2.St) (H : Hp), W i m σ H → J.stop i H ∧ D.nx σ H ∨ J.go i H ∧ ∃ N : L2.St → Hp → Prop, (∀ σ' H', N σ' H' → ∃ m', m' < m ∧ W (i + 1) m' σ' H') ∧
    ∀ x H', J.yld i H x H' → g x σ H' fun σ2 H2 => tb { nx := N, rt := D.rt, bk := D.nx, ct := N } σ2 H2) : tFor wi g tb D σ H := h
theorem i_lock {t : TS} (h : tLock t D σ H) : tLock t D σ H := h
theorem i_rng1 {ta : TA} {R : It → Hp → Prop} (h : ta σ H fun vs H1 => ∃ j : Int, vs = [.int j] ∧ -(2 ^ 62) ≤ j ∧ j < 2 ^ 62 ∧ R (Itr 0 j.toNat) H1) : iRng1 ta σ H R := h
theorem i_rng1In {n : Int} {R : Int → Prop} (h1 : -(2 ^ 62) ≤ n) (h2 : n < 2 ^ 62) (q : R n) : ∃ j : Int, [V.int n] = [.int j] ∧ -(2 ^ 62) ≤ j ∧ j < 2 ^ 62 ∧ R j := ⟨n, rfl, h1, h2, q⟩
theorem i_rng2 {ta : TA} {R : It → Hp → Prop} (h : ta σ H fun vs H1 => ∃ i j : Int, vs = [.int i, .int j] ∧ (-(2 ^ 62) ≤ i ∧ i < 2 ^ 62 ∧ -(2 ^ 62) ≤ j ∧ j < 2 ^ 62) ∧ R (Itr i (j - i).toNat) H1) : iRng2 ta σ H R := h
theorem i_rng2In {i j : Int} {R : Int → Int → Prop} (h : -(2 ^ 62) ≤ i ∧ i < 2 ^ 62 ∧ -(2 ^ 62) ≤ j ∧ j < 2 ^ 62) (q : R i j) : ∃ i' j' : Int, [V.int i, V.int j] = [.int i', .int j'] ∧ (-(2 ^ 62) ≤ i' ∧ i' < 2 ^ 62 ∧ -(2 ^ 62) ≤ j' ∧ j' < 2 ^ 62) ∧ R i' j' := ⟨i, j, rfl, h, q⟩
theorem i_list {tl : TE} {R : It → Hp → Prop} (h : tl σ H fun x H1 => ∃ a, x = .ref a ∧ (∃ xs, SqL K H1 a xs) ∧ R (Itl K a) H1) : iList K tl σ H R := h
theorem i_listIn {a : Addr} {xs : List V} {R : Addr → Prop} (h : SqL K H a xs) (q : R a) : ∃ a', V.ref a = .ref a' ∧ (∃ xs, SqL K H a' xs) ∧ R a' := ⟨a, rfl, ⟨xs, h⟩, q⟩
theorem i_tupI {tl : TE} {R : It → Hp → Prop} (h : tl σ H fun x H1 => ∃ a, x = .ref a ∧ (∃ xs, SqT K H1 a xs) ∧ R (Itt K a) H1) : iTup K tl σ H R := h
theorem i_tupIn {a : Addr} {xs : List V} {R : Addr → Prop} (h : SqT K H a xs) (q : R a) : ∃ a', V.ref a = .ref a' ∧ (∃ xs, SqT K H a' xs) ∧ R a' := ⟨a, rfl, ⟨xs, h⟩, q⟩
/-! ### for -/
theorem f_rng {lo : Int} {n : Nat} {g : TG} {tb : TS} (I : Nat → L2.St → Hp → Prop) (h0 : I 0 σ H)
    (step : ∀ k σ' H', k < n → I k σ' H' → g (.int (lo + k)) σ' H' fun σ2 H2 => tb { nx := I (k + 1), rt := D.rt, bk := D.nx, ct := I (k + 1) } σ2 H2)
    (fin : ∀ σ' H', I n σ' H' → D.nx σ' H') :
    ∃ W : Nat → Nat → L2.St → Hp → Prop, (∃ m, W 0 m σ H) ∧ ∀ (i m : Nat) (σ : L2.St) (H : Hp), W i m σ H → (Itr lo n).stop i H ∧ D.nx σ H ∨ (Itr lo n).go i H ∧ ∃ N : L2.St → Hp → Prop, (∀ σ' H', N σ' H' → ∃ m', m' < m ∧ W (i + 1) m' σ' H') ∧
    ∀ x H', (Itr lo n).yld i H x H' → g x σ H' fun σ2 H2 => tb { nx := N, rt := D.rt, bk := D.nx, ct := N } σ2 H2 := by
  refine ⟨fun i m σ H => i + m = n ∧ I i σ H, ⟨n, by omega, h0⟩, fun i m σ1 H1 ⟨e, hi⟩ => ?_⟩
  by_cases c : i < n
  · refine .inr ⟨c, I (i + 1), fun σ' H' h' => ⟨m - 1, by omega, by omega, h'⟩, fun x H' y => ?_⟩
    obtain ⟨rfl, rfl⟩ := y
    exact step i σ1 H' c hi
  · refine .inl ⟨Nat.le_of_not_lt c, ?_⟩
    have : i = n := by omega
    subst this
    exact fin _ _ hi
theorem f_list {a : Addr} {g : TG} {tb : TS} (xs : List V) (I : Nat → L2.St → Hp → Prop) (hs : ∀ k σ' H', I k σ' H' → SqL K H' a xs) (h0 : I 0 σ H)
    (step : ∀ k x σ' H', xs[k]? = some x → I k σ' H' → g x σ' H' fun σ2 H2 => tb { nx := I (k + 1), rt := D.rt, bk := D.nx, ct := I (k + 1) } σ2 H2)
    (fin : ∀ σ' H', I xs.length σ' H' → D.nx σ' H') :
    ∃ W : Nat → Nat → L2.St → Hp → Prop, (∃ m, W 0 m σ H) ∧ ∀ (i m : Nat) (σ : L2.St) (H : Hp), W i m σ H → (Itl K a).stop i H ∧ D.nx σ H ∨ (Itl K a).go i H ∧ ∃ N : L2.St → Hp → Prop, (∀ σ' H', N σ' H' → ∃ m', m' < m ∧ W (i + 1) m' σ' H') ∧
    ∀ x H', (Itl K a).yld i H x H' → g x σ H' fun σ2 H2 => tb { nx := N, rt := D.rt, bk := D.nx, ct := N } σ2 H2 := by
  refine ⟨fun i m σ H => i + m = xs.length ∧ I i σ H, ⟨xs.length, by omega, h0⟩, fun i m σ1 H1 ⟨e, hi⟩ => ?_⟩
  by_cases c : i < xs.length
  · refine .inr ⟨⟨xs, xs[i], hs _ _ _ hi, List.getElem?_eq_getElem c⟩, I (i + 1), fun σ' H' h' => ⟨m - 1, by omega, by omega, h'⟩, fun x H' y => ?_⟩
    obtain ⟨rfl, y⟩ := y
    exact step i x σ1 H' (y xs (hs _ _ _ hi)) hi
  · refine .inl ⟨⟨xs, hs _ _ _ hi, Nat.le_of_not_lt c⟩, ?_⟩
    have : i = xs.length := by omega
    subst this
    exact fin _ _ hi
theorem f_tup {a : Addr} {g : TG} {tb : TS} (xs : List V) (I : Nat → L2.St → Hp → Prop) (hs : ∀ k σ' H', I k σ' H' → SqT K H' a xs) (h0 : I 0 σ H)
    (step : ∀ k x σ' H', xs[k]? = some x → I k σ' H' → g x σ' H' fun σ2 H2 => tb { nx := I (k + 1), rt := D.rt, bk := D.nx, ct := I (k + 1) } σ2 H2)
    (fin : ∀ σ' H', I xs.length σ' H' → D.nx σ' H') :
    ∃ W : Nat → Nat → L2.St → Hp → Prop, (∃ m, W 0 m σ H) ∧ ∀ (i m : Nat) (σ : L2.St) (H : Hp), W i m σ H → (Itt K a).stop i H ∧ D.nx σ H ∨ (Itt K a).go i H ∧ ∃ N : L2.St → Hp → Prop, (∀ σ' H', N σ' H' → ∃ m', m' < m ∧ W (i + 1) m' σ' H') ∧
    ∀ x H', (Itt K a).yld i H x H' → g x σ H' fun σ2 H2 => tb { nx := N, rt := D.rt, bk := D.nx, ct := N } σ2 H2 := by
  refine ⟨fun i m σ H => i + m = xs.length ∧ I i σ H, ⟨xs.length, by omega, h0⟩, fun i m σ1 H1 ⟨e, hi⟩ => ?_⟩
  by_cases c : i < xs.length
  · refine .inr ⟨⟨xs, xs[i], hs _ _ _ hi, List.getElem?_eq_getElem c⟩, I (i + 1), fun σ' H' h' => ⟨m - 1, by omega, by omega, h'⟩, fun x H' y => ?_⟩
    obtain ⟨rfl, y⟩ := y
    exact step i x σ1 H' (y xs (hs _ _ _ hi)) hi
  · refine .inl ⟨⟨xs, hs _ _ _ hi, Nat.le_of_not_lt c⟩, ?_⟩
    have : i = xs.length := by omega
    subst this
    exact fin _ _ hi
/-! ### comprehensions -/
/-- what a comprehension asks of its iterator -/
def LcOf (J : It) (g : TG) (tt : TT) (te : TE) (vs : List Nat) (σ : L2.St) (Q : VK) (H1 : Hp) : Prop := ∀ D : Addr, H1 D = none → ∃ W : Nat → Nat → Hp → Prop, (∃ m, W 0 m (upd H1 D (.lst []))) ∧ ∀ (i m : Nat) (H : Hp), W i m H → J.stop i H ∧ Q (.ref D) H ∨ J.go i H ∧ ∃ Nx : Hp → Prop,
    (∀ H', Nx H' → ∃ m', m' < m ∧ W (i + 1) m' H') ∧ ∀ x H', J.yld i H x H' → g x (wipe σ vs) H' fun σ2 H2 => wipe σ2 vs = wipe σ vs ∧ tt σ2 H2 fun b H3 => if b = true then te σ2 H3 fun y H4 => ∃ acc, H4 D = some (.lst acc) ∧ acc.length < sizeLine ∧ Nx (upd H4 D (.lst (acc ++ [y]))) else Nx H3
theorem i_lc {wi : TI} {g : TG} {tt : TT} {te : TE} {vs : List Nat} (h : wi σ H fun J H1 => LcOf J g tt te vs σ Q H1) : tLc wi g tt te vs σ H Q := h
theorem i_yes {R : Bool → Hp → Prop} (h : R true H) : tYes σ H R := h
theorem wipe_set (σ : L2.St) (v : Nat) (x : Option V) : wipe ((wipe σ [v]).set v x) [v] = wipe σ [v] := by
  show List.set (List.set (List.set σ v none) v x) v none = List.set σ v none
  rw [List.set_set, List.set_set]
/-- what a turn asks of the value it takes -/
def LcPut (D : Addr) (k : Nat) (I : Nat → List V → Hp → Prop) (y : V) (H4 : Hp) : Prop := ∃ acc, H4 D = some (.lst acc) ∧ acc.length < sizeLine ∧ ∃ acc', acc'.length = k + 1 ∧ (upd H4 D (.lst (acc ++ [y]))) D = some (.lst acc') ∧ I (k + 1) acc' (upd H4 D (.lst (acc ++ [y])))
theorem lc_put {D : Addr} {k : Nat} {I : Nat → List V → Hp → Prop} {y : V} {acc : List V} (h : H D = some (.lst acc)) (hl : acc.length = k) (hk : k < 4000) (q : I (k + 1) (acc ++ [y]) (upd H D (.lst (acc ++ [y])))) : LcPut D k I y H :=
  ⟨acc, h, by rw [sizeLine_eq]; omega, acc ++ [y], by rw [List.length_append]; simp [hl], upd_same, q⟩
/-- over numbers, all taken, one name -/
theorem lc_rng {lo : Int} {n v : Nat} {te : TE} (I : Nat → List V → Hp → Prop) (h0 : ∀ D, H D = none → I 0 [] (upd H D (.lst [])))
    (step : ∀ k D acc H', k < n → acc.length = k → H D = none → H' D = some (.lst acc) → I k acc H' → te ((wipe σ [v]).set v (some (.int (lo + k)))) H' fun y H4 => LcPut D k I y H4)
    (fin : ∀ D acc H', acc.length = n → H D = none → H' D = some (.lst acc) → I n acc H' → Q (.ref D) H') :
    LcOf (Itr lo n) (gName v) tYes te [v] σ Q H := by
  intro D hD
  refine ⟨fun i m H' => i + m = n ∧ ∃ acc, acc.length = i ∧ H' D = some (.lst acc) ∧ I i acc H', ⟨n, by omega, [], rfl, upd_same, h0 D hD⟩, fun i m H1 ⟨e, acc, hl, ha, hi⟩ => ?_⟩
  by_cases c : i < n
  · refine .inr ⟨c, fun H' => ∃ acc, acc.length = i + 1 ∧ H' D = some (.lst acc) ∧ I (i + 1) acc H', fun H' h' => ⟨m - 1, by omega, by omega, h'⟩, fun x H' y => ?_⟩
    obtain ⟨rfl, rfl⟩ := y
    exact ⟨wipe_set σ v _, step i D acc H' c hl hD ha hi⟩
  · refine .inl ⟨Nat.le_of_not_lt c, ?_⟩
    have : i = n := by omega
    subst this
    exact fin D acc _ hl hD ha hi
/-- over a list or a tuple that stands, all taken, one name -/
theorem lc_list {a : Addr} {v : Nat} {te : TE} (xs : List V) (I : Nat → List V → Hp → Prop) (hs : ∀ k D acc H', H D = none → H' D = some (.lst acc) → I k acc H' → SqL K H' a xs) (h0 : ∀ D, H D = none → I 0 [] (upd H D (.lst [])))
    (step : ∀ k x D acc H', xs[k]? = some x → acc.length = k → H D = none → H' D = some (.lst acc) → I k acc H' → te ((wipe σ [v]).set v (some x)) H' fun y H4 => LcPut D k I y H4)
    (fin : ∀ D acc H', acc.length = xs.length → H D = none → H' D = some (.lst acc) → I xs.length acc H' → Q (.ref D) H') :
    LcOf (Itl K a) (gName v) tYes te [v] σ Q H := by
  intro D hD
  refine ⟨fun i m H' => i + m = xs.length ∧ ∃ acc, acc.length = i ∧ H' D = some (.lst acc) ∧ I i acc H', ⟨xs.length, by omega, [], rfl, upd_same, h0 D hD⟩, fun i m H1 ⟨e, acc, hl, ha, hi⟩ => ?_⟩
  by_cases c : i < xs.length
  · refine .inr ⟨⟨xs, xs[i], hs _ _ _ _ hD ha hi, List.getElem?_eq_getElem c⟩, fun H' => ∃ acc, acc.length = i + 1 ∧ H' D = some (.lst acc) ∧ I (i + 1) acc H', fun H' h' => ⟨m - 1, by omega, by omega, h'⟩, fun x H' y => ?_⟩
    obtain ⟨rfl, y⟩ := y
    exact ⟨wipe_set σ v _, step i x D acc H' (y xs (hs _ _ _ _ hD ha hi)) hl hD ha hi⟩
  · refine .inl ⟨⟨xs, hs _ _ _ _ hD ha hi, Nat.le_of_not_lt c⟩, ?_⟩
    have : i = xs.length := by omega
    subst this
    exact fin D acc _ hl hD ha hi
theorem lc_tup {a : Addr} {v : Nat} {te : TE} (xs : List V) (I : Nat → List V → Hp → Prop) (hs : ∀ k D acc H', H D = none → H' D = some (.lst acc) → I k acc H' → SqT K H' a xs) (h0 : ∀ D, H D = none → I 0 [] (upd H D (.lst [])))
    (step : ∀ k x D acc H', xs[k]? = some x → acc.length = k → H D = none → H' D = some (.lst acc) → I k acc H' → te ((wipe σ [v]).set v (some x)) H' fun y H4 => LcPut D k I y H4)
    (fin : ∀ D acc H', acc.length = xs.length → H D = none → H' D = some (.lst acc) → I xs.length acc H' → Q (.ref D) H') :
    LcOf (Itt K a) (gName v) tYes te [v] σ Q H := by
  intro D hD
  refine ⟨fun i m H' => i + m = xs.length ∧ ∃ acc, acc.length = i ∧ H' D = some (.lst acc) ∧ I i acc H', ⟨xs.length, by omega, [], rfl, upd_same, h0 D hD⟩, fun i m H1 ⟨e, acc, hl, ha, hi⟩ => ?_⟩
  by_cases c : i < xs.length
  · refine .inr ⟨⟨xs, xs[i], hs _ _ _ _ hD ha hi, List.getElem?_eq_getElem c⟩, fun H' => ∃ acc, acc.length = i + 1 ∧ H' D = some (.lst acc) ∧ I (i + 1) acc H', fun H' h' => ⟨m - 1, by omega, by omega, h'⟩, fun x H' y => ?_⟩
    obtain ⟨rfl, y⟩ := y
    exact ⟨wipe_set σ v _, step i x D acc H' (y xs (hs _ _ _ _ hD ha hi)) hl hD ha hi⟩
  · refine .inl ⟨⟨xs, hs _ _ _ _ hD ha hi, Nat.le_of_not_lt c⟩, ?_⟩
    have : i = xs.length := by omega
    subst this
    exact fin D acc _ hl hD ha hi
end Rb
/-! Rb: own exceptions raised without parts, caught; a Hook that tells more. -/
namespace Rb
open PySem PySem.Spec PyProof.Rows L2
/-- what an own error's class tells, so that it may be raised -/
structure XOk (K : PySem.W.Frag) (mg : Str → Option Value) (x : Str) : Prop where
  g : mg x = some (.ref (He.ga K x))
  ex : PySem.W.excIn K (He.ga K x) He.veBase "ValueError.__new__" = true
  kp : PySem.W.keepIn K (.ref (He.ga K x)) = true
  sub : PySem.W.subIn K (.ref (He.ga K x)) (.type "BaseException") = some true
  ty : PySem.W.typeIn K (.ref (He.ga K x)) = some (.type "type")
def tRaiseE (E : XK) (C : Addr) : TS := fun _ σ H => E (.ref C) none H
section
variable {X : Cx} {x : Str} {E : XK} {p pos pos' : Pos}
theorem pmk_own0 (T : XOk X.K X.mg x) (hg : Gl X x) (hdb : (x == ("__debug__" : Str)) = false := by decide) : PMk X (.Call (.Name x p) [] [] pos) (fun _ H Q => Q (.ref (He.ga X.K x)) none H) := by
  intro pins s σ H Q I h
  refine wpAny_Call_Name_kw (ld_glob I hg T.g ?_ hdb)
  refine PySem.W.callWith_K0 I.kIn T.kp ?_
  show wpAny _ _ (call (.ref (He.ga X.K x)) []) _ _ _
  obtain ⟨bm, N, nm, qn, bs, hdct, sn, sub, ab, col, dd, k0, k1, k2, k3, k5, mN, hC, hN, hni, T'⟩ := exc_obj I.kIn T.ex
  refine wpAny_call_exc_subT PySem.F.excBase_ValueError T' hC hN hni (fun h' e hm => ?_) (by show 0 ≤ sizeLine; omega)
  exact mk_of I hm (raises_own T.sub T.ty) h (I.hok.gone hm.new)
theorem ps_raise0 (T : XOk X.K X.mg x) (hc : X.calm = true) (tk : Takes X (fun cls d _ H => E cls d H)) (hg : Gl X x) (hdb : (x == ("__debug__" : Str)) = false := by decide) :
    PS X (.Raise (some (.Call (.Name x p) [] [] pos)) none pos') (tRaiseE E (He.ga X.K x)) := ps_raise hc tk (pmk_own0 T hg hdb)
/-! ### a method whose errors are caught here -/
def tMethS (C : Addr) (m : Str) (sp : Sp) (E : L2.St → XK) (ta : TE) (t : TA) : TE := fun σ H Q => ta σ H fun x H1 => ∃ a dx fs, x = .ref a ∧ H1 a = some (.ins C dx fs) ∧ fs.lookup m = none ∧ t σ H1 fun vs H2 => sp (x :: vs) H2 Q (E σ)
section
variable {X : Cx} {CX : CXT} {k : Nat} {f C : Addr} {fd : FuncData} {ps : List Str} {sp : Sp} {E : L2.St → XK} {m : Str} {pos apos : Pos} {e o : Expr} {es : List Expr} {ta : TE} {t : TA}
theorem pe_methS {pl : Sem Bool} (he : PE X o ta) (c : Cls X.K C) (hm : Meth X.K C m f) (F : FnOk X.prog X.w X.K X.mg X.base CX k f fd ps sp) (hr : Room k X.A) (hb : Binds X.K fd ps []) (hx : ∀ σ, PassesAt CX X σ (E σ)) (ha : PA X (e :: es) t)
    (hst : starEach (e :: es) X.env = (false, eval e X.env) :: starEach es X.env := by rfl) (hpl : (backTo pos (starEach es X.env)).any (·.1) = false := by rfl)
    (ht : eval (.Call (.Attribute o m apos) (e :: es) [] pos) X.env = (do
      let ov ← eval o X.env
      standAt apos.atName
      let (f, first) ← holding [ov] (getMethod ov m pl)
      callWith pos f first (backTo pos (starEach (e :: es) X.env)) (backToKw pos (keywordEach [] X.env))) := by rfl) :
    PE X (.Call (.Attribute o m apos) (e :: es) [] pos) (tMethS C m sp E ta t) := by
  refine ⟨fun pins s σ H Q I h => ?_⟩
  refine PySem.W.methodCall_KW (pl := pl) (thn (he.run pins s σ H _ I h) fun u s1 ⟨x, H1, I1, rx, a, dx, fs, ex, ea, l, q⟩ => ?_) ht
  subst ex
  obtain rfl : u = Value.ref a := rx
  refine getmeth_ok I1 ea c hm l ?_
  refine PySem.W.callWith_K (first := [.ref a]) (h₀ := X.base) I.ok.mod.kin hm.kp (thn (ha.run pos pins s1 σ H1 _ I1 q) fun us s2 ⟨vs, H2, I2, r, q2⟩ => ⟨I2.kIn, ?_⟩) hst hpl
  exact run_fnS (us := .ref a :: us) (vs := .ref a :: vs) F hr hb (hx σ) I2 (.cons rfl r) q2
end
end
/-! ### try -/
def tTryAs (K : PySem.W.Frag) (C : Addr) (i : Nat) (tb : WX → TS) (ts : Addr → Value → Option Addr → TS) (Wout : WX) : TS := fun D σ H => tb (wAs K (.ref C) i ts Wout D) D σ H
def tKn (C : Addr) (t : TS) (cls : Value) (d : Option Addr) : TS := fun D σ H => cls = .ref C ∧ d = none ∧ t D σ H
theorem pss_kn {X : Cx} {ss : List Stmt} {C : Addr} {t : TS} {cls : Value} {d : Option Addr} (h : cls = .ref C → d = none → PSs X ss t) : PSs X ss (tKn C t cls d) := ⟨fun pins s σ H D I q => (h q.1 q.2.1).run pins s σ H D I q.2.2⟩
def tTryOnly (K : PySem.W.Frag) (C : Addr) (tb : WX → TS) (ts : Addr → Value → Option Addr → TS) (Wout : WX) : TS := fun D σ H => tb (wOnly K (.ref C) ts Wout D) D σ H
section
variable {X : Cx} {x n : Str} {C : Addr} {i : Nat} {body suite : List Stmt} {b₀ : Stmt} {np pos pos' : Pos} {tb : WX → TS} {ts : Addr → Value → Option Addr → TS} {Wout : WX}
theorem ps_tryAs (hs : X.stack = X.env :: X.outer) (hf : X.env.frame = some X.env.locals) (hN : X.N.Nodup) (hi : X.N[i]? = some n) (hln : X.env.kindOf n = some .local) (hg : Gl X x) (hd : (x == ("__debug__" : Str)) = false) (hc : X.mg x = some (.ref C)) (tk : Takes X Wout)
    (hb : ∀ (W : WX) (pn : List (Addr × Obj)) (xe : Value → Shared → Prop), Takes (X.tr pn xe) W → PassesOwn (model X.prog X.w) X.A X.env xe → PSs (X.tr pn xe) body (tb W))
    (hsu : ∀ (a : Addr) (oe : Obj) (cls : Value) (d : Option Addr) (pn : List (Addr × Obj)), Zc cls d oe → (∃ vs, oe.data = .fields vs) → PSs (X.suite a ((a, oe) :: pn)) (b₀ :: suite) (ts a cls d)) :
    PS X (.Try body [.ExceptHandler (some (.Name x np)) (some n) (b₀ :: suite) pos'] [] [] pos) (tTryAs X.K C i tb ts Wout) := ps_try_as hs hf hN hi hln ⟨hg, hd, .inl hc⟩ tk hb hsu
theorem ps_tryOnly (hs : X.stack = X.env :: X.outer) (hf : X.env.frame = some X.env.locals) (hg : Gl X x) (hd : (x == ("__debug__" : Str)) = false) (hc : X.mg x = some (.ref C)) (tk : Takes X Wout)
    (hb : ∀ (W : WX) (pn : List (Addr × Obj)) (xe : Value → Shared → Prop), Takes (X.tr pn xe) W → PassesOwn (model X.prog X.w) X.A X.env xe → PSs (X.tr pn xe) body (tb W))
    (hsu : ∀ (a : Addr) (oe : Obj) (cls : Value) (d : Option Addr) (pn : List (Addr × Obj)), Zc cls d oe → (∃ vs, oe.data = .fields vs) → PSs (X.suite a ((a, oe) :: pn)) (b₀ :: suite) (ts a cls d)) :
    PS X (.Try body [.ExceptHandler (some (.Name x np)) none (b₀ :: suite) pos'] [] [] pos) (tTryOnly X.K C tb ts Wout) := ps_try_only hs hf ⟨hg, hd, .inl hc⟩ tk hb hsu
end
theorem hu65 {k : Nat} {A : Around} (hr : Room k A) : A.units + 65 < cLine := by
  have := hr.un
  omega
/-! ### a Hook that tells more of the written part -/
def excCB (K : PySem.W.Frag) (x : Str) : Bool :=
  He.eqO (PySem.W.findIn K (.ref (He.ga K x)) "__getattribute__") (some (some (.builtin "BaseException.__getattribute__"))) && (He.eqO (PySem.W.findIn K (.ref (He.ga K x)) "__getattr__") (some none) && (decide (PySem.W.subIn K (.ref (He.ga K x)) (.type "BaseException") = some true) && (PySem.W.hasDictIn K (He.ga K x) &&
    (He.eqO (PySem.W.findIn K (.ref (He.ga K x)) "__class__") (some (some (.builtin "object.__class__"))) && (He.eqO (PySem.W.specialIn K (.builtin "object.__class__") "__get__") (some (some (.builtin "getset_descriptor.__get__"))) && (decide (PySem.W.takesIn K (.builtin "object.__class__") = some true) && decide (PySem.W.mroIn K (He.ga K x) (.type "object") = some true)))))))
theorem excCB_ok {K : PySem.W.Frag} {x : Str} (h : excCB K x = true) : ExcC K (He.ga K x) := by
  obtain ⟨h1, h⟩ := He.ba h
  obtain ⟨h2, h⟩ := He.ba h
  obtain ⟨h3, h⟩ := He.ba h
  obtain ⟨h4, h⟩ := He.ba h
  obtain ⟨h5, h⟩ := He.ba h
  obtain ⟨h6, h⟩ := He.ba h
  obtain ⟨h7, h8⟩ := He.ba h
  exact ⟨He.eqO_ok h1, He.eqO_ok h2, of_decide_eq_true h3, h4, He.eqO_ok h5, He.eqO_ok h6, of_decide_eq_true h7, of_decide_eq_true h8⟩
abbrev AlX : Type := He.AlD × Bool
def obsX (n : Nat) (fa : List He.Fa) (fn : List He.DefD) (ex : PySem.W.Frag → Bool) (g : Addr → Option Obj) : AlX := (He.obsDG n fa fn g, ex (He.frG g (He.asD g n)))
def hookX (n : Nat) (fa : List He.Fa) (fn : List He.DefD) (ex : PySem.W.Frag → Bool) : PySem.W.Hook where
  α := AlX
  obs := fun s => obsX n fa fn ex s.heap.get?
  val := fun _ => (He.valD fn, true)
  says := fun _ h => ∃ K : PySem.W.Frag, K.In h ∧ He.SaysD fa fn K ∧ ex K = true
  of := fun _ _ e => ⟨_, He.frG_in, congrArg (fun z : AlX => z.1) e, congrArg (fun z : AlX => z.2) e⟩
  keeps := fun _ _ _ ⟨K, hK, c⟩ k => ⟨K, PySem.W.Frag.In.keeps hK k, c⟩
theorem obsX_eq {n : Nat} {fa : List He.Fa} {fn : List He.DefD} {ex : PySem.W.Frag → Bool} {g : Addr → Option Obj} {s : Shared} (h : ∀ a, g a = s.heap.get? a) : obsX n fa fn ex g = (hookX n fa fn ex).obs s := by
  have e : g = s.heap.get? := funext h
  rw [e] <;> rfl
theorem xOk_of {K : PySem.W.Frag} {mg : Str → Option Value} {x : Str} (g : mg x = some (.ref (He.ga K x))) (c : (He.Fa.exc x).ok K = true) : XOk K mg x := by
  obtain ⟨h1, h2, h3, h4⟩ := He.exc_ok c
  exact ⟨g, h1, h2, h3, h4⟩
/-! ### readings, one step -/
section
variable {K : PySem.W.Frag} {σ : L2.St} {H : Hp} {D : Ends} {Q : VK} {E : XK}
theorem i_raise {C : Addr} (h : E (.ref C) none H) : tRaiseE E C D σ H := h
theorem i_callS {sp : Sp} {E' : L2.St → XK} {t : TA} (h : t σ H fun vs H1 => sp vs H1 Q (E' σ)) : tCallS sp E' t σ H Q := h
theorem i_methS {C : Addr} {m : Str} {sp : Sp} {E' : L2.St → XK} {ta : TE} {t : TA} (h : ta σ H fun x H1 => ∃ a dx fs, x = .ref a ∧ H1 a = some (.ins C dx fs) ∧ fs.lookup m = none ∧ t σ H1 fun vs H2 => sp (x :: vs) H2 Q (E' σ)) : tMethS C m sp E' ta t σ H Q := h
theorem i_tryAs {C : Addr} {i : Nat} {tb : WX → TS} {ts : Addr → Value → Option Addr → TS} {Wout : WX} (h : tb (wAs K (.ref C) i ts Wout D) D σ H) : tTryAs K C i tb ts Wout D σ H := h
theorem i_tryOnly {C : Addr} {tb : WX → TS} {ts : Addr → Value → Option Addr → TS} {Wout : WX} (h : tb (wOnly K (.ref C) ts Wout D) D σ H) : tTryOnly K C tb ts Wout D σ H := h
/-- an exception of C', which is one that the clause names -/
theorem i_wAs {C C' : Addr} {i : Nat} {ts : Addr → TS} {Wout : WX} (e : PySem.W.exmOne K (.ref C') (.ref C) = some true)
    (h : ∀ a, H a = none → ts a { nx := fun σ' H' => D.nx (σ'.set i none) H', rt := D.rt, bk := fun σ' H' => D.bk (σ'.set i none) H', ct := fun σ' H' => D.ct (σ'.set i none) H' } (σ.set i (some (.ref a))) H) :
    wAs K (.ref C) i (fun a cls d => tKn C' (ts a) cls d) Wout D (.ref C') none σ H := ⟨true, e, fun _ a ha => ⟨rfl, rfl, h a ha⟩, fun z => nomatch z⟩
theorem i_wOnly {C C' : Addr} {ts : Addr → TS} {Wout : WX} (e : PySem.W.exmOne K (.ref C') (.ref C) = some true) (h : ∀ a, H a = none → ts a D σ H) :
    wOnly K (.ref C) (fun a cls d => tKn C' (ts a) cls d) Wout D (.ref C') none σ H := ⟨true, e, fun _ a ha => ⟨rfl, rfl, h a ha⟩, fun z => nomatch z⟩
theorem i_isE {D' a : Addr} (q : Q (.bl true) H) : rIsE K D' a [.ref a, .ref D'] H Q := ⟨.ref D', .ref D', true, rfl, fun u r => r, if_pos (by simp), q⟩
end
/-! ### sorted(a dict of whole numbers) -/
def rSortedDI : List V → Hp → VK → Prop := fun xs H Q => ∃ (a : Addr) (kvs : List (Key × V)) (ks : List Int), xs = [.ref a] ∧ Rd H a (.dK kvs) ∧ kvs.map (·.1) = ks.map Sum.inl ∧ ks.length < 64 ∧
    ∀ (ys : List Int) (p : Addr), ys.Perm ks → ys.Pairwise (· ≤ ·) → H p = none → Q (.ref p) (upd H p (.lst (ys.map V.int)))
theorem cr_sortedDI {X : Cx} (hc : X.calm = true) : CallR X (.builtin "sorted") rSortedDI := call_sortedDI hc
end Rb
/-! Rb: addresses that are apart; the memory and its guards in the heap. -/
namespace Rb
open PySem PySem.Spec PyProof.Rows L2
/-- all apart, all there -/
structure AL (L : List Addr) (H : Hp) : Prop where
  nd : L.Nodup
  there : ∀ a ∈ L, ∃ o, H a = some o
theorem AL.nil {H : Hp} : AL [] H := ⟨List.nodup_nil, fun _ h => by cases h⟩
theorem AL.new {L : List Addr} {H : Hp} (h : AL L H) {p : Addr} {o : HO} (hp : H p = none) : AL (p :: L) (upd H p o) := by
  refine ⟨List.nodup_cons.mpr ⟨fun m => ?_, h.nd⟩, fun a m => ?_⟩
  · obtain ⟨u, e⟩ := h.there p m
    rw [hp] at e
    cases e
  · rcases List.mem_cons.mp m with rfl | m
    · exact ⟨o, upd_same⟩
    · obtain ⟨u, e⟩ := h.there a m
      exact ⟨u, upd_at (ne_fresh hp e) e⟩
theorem AL.upd {L : List Addr} {H : Hp} (h : AL L H) {p : Addr} {o : HO} : AL L (L2.upd H p o) := by
  refine ⟨h.nd, fun a m => ?_⟩
  by_cases e : a = p
  · subst e
    exact ⟨o, upd_same⟩
  · obtain ⟨u, q⟩ := h.there a m
    exact ⟨u, upd_at e q⟩
theorem AL.stays {L fp : List Addr} {H H' : Hp} (h : AL L H) (s : Stays fp H H') (k : ∀ a ∈ L, a ∈ fp → ∃ o, H' a = some o) : AL L H' := ⟨h.nd, fun a m => by
  by_cases f : a ∈ fp
  · exact k a m f
  · obtain ⟨o, e⟩ := h.there a m
    exact ⟨o, s a o e f⟩⟩
theorem AL.same {L : List Addr} {H H' : Hp} (h : AL L H) (s : Same H H') : AL L H' := ⟨h.nd, fun a m => by
  obtain ⟨o, e⟩ := h.there a m
  exact ⟨o, s a o e⟩⟩
theorem AL.perm {L L' : List Addr} {H : Hp} (h : AL L H) (p : L.Perm L') : AL L' H := ⟨p.nodup_iff.mp h.nd, fun a m => h.there a (p.mem_iff.mpr m)⟩
theorem AL.ne {L : List Addr} {H : Hp} (h : AL L H) {i j : Nat} {a b : Addr} (ha : L[i]? = some a) (hb : L[j]? = some b) (n : i ≠ j) : a ≠ b := fun e => by
  subst e
  have hi : i < L.length := (List.getElem?_eq_some_iff.mp ha).1
  exact n ((List.getElem?_inj hi h.nd).mp (ha.trans hb.symm))
theorem AL.join {L L' : List Addr} {H H' : Hp} (h : AL L H) (keep : ∀ a ∈ L, ∃ o, H' a = some o) (nd : L'.Nodup) (fr : ∀ a ∈ L', H a = none) (th : ∀ a ∈ L', ∃ o, H' a = some o) : AL (L ++ L') H' := by
  refine ⟨List.nodup_append.mpr ⟨h.nd, nd, fun a m b m' e => ?_⟩, fun a m => (List.mem_append.mp m).elim (keep a) (th a)⟩
  subst e
  obtain ⟨o, e⟩ := h.there a m
  rw [fr a m'] at e
  cases e
theorem AL.joinSame {L L' : List Addr} {H H' : Hp} (h : AL L H) (s : Same H H') (nd : L'.Nodup) (fr : ∀ a ∈ L', H a = none) (th : ∀ a ∈ L', ∃ o, H' a = some o) : AL (L ++ L') H' := h.join (fun a m => by
  obtain ⟨o, e⟩ := h.there a m
  exact ⟨o, s a o e⟩) nd fr th
/-! ### the classes -/
structure MemCls (K : PySem.W.Frag) : Prop where
  c : Cls K (He.ga K "Memory")
  count : NoAttr K (He.ga K "Memory") "count"
  held : NoAttr K (He.ga K "Memory") "held"
  guards : NoAttr K (He.ga K "Memory") "guards"
  stored : NoAttr K (He.ga K "Memory") "stored"
  journals : NoAttr K (He.ga K "Memory") "journals"
  rows : NoAttr K (He.ga K "Memory") "rows"
  g : Cls K (He.ga K "Guard")
  kept : NoAttr K (He.ga K "Guard") "kept"
  waiting : NoAttr K (He.ga K "Guard") "waiting"
  tickets : NoAttr K (He.ga K "Guard") "tickets"
/-! ### a guard -/
structure GAd where
  g : Addr
  dx : Addr
  k : Addr
  w : Addr
structure GS where
  kept : List (Key × V)
  wait : List V
  tickets : Int
def GAd.all (a : GAd) : List Addr := [a.g, a.k, a.w]
def gFields (a : GAd) (s : GS) : List (Str × V) := [("kept", .ref a.k), ("waiting", .ref a.w), ("tickets", .int s.tickets)]
structure GAt (K : PySem.W.Frag) (H : Hp) (a : GAd) (s : GS) : Prop where
  g : H a.g = some (.ins (He.ga K "Guard") a.dx (gFields a s))
  k : H a.k = some (.dK s.kept)
  w : H a.w = some (.lst s.wait)
theorem GAt.same {K : PySem.W.Frag} {H H' : Hp} {a : GAd} {s : GS} (h : GAt K H a s) (e : Same H H') : GAt K H' a s := ⟨e _ _ h.g, e _ _ h.k, e _ _ h.w⟩
theorem GAt.stays {K : PySem.W.Frag} {H H' : Hp} {a : GAd} {s : GS} {fp : List Addr} (h : GAt K H a s) (e : Stays fp H H') (n : ∀ x ∈ a.all, x ∉ fp) : GAt K H' a s :=
  ⟨e _ _ h.g (n _ (by simp [GAd.all])), e _ _ h.k (n _ (by simp [GAd.all])), e _ _ h.w (n _ (by simp [GAd.all]))⟩
/-! ### the memory -/
structure MAd where
  m : Addr
  dx : Addr
  ph : Addr
  pg : Addr
  g0 : GAd
  g1 : GAd
  ps : Addr
  s0 : Addr
  s1 : Addr
  pj : Addr
  pr : Addr
structure MS where
  count : Int
  held : List V
  g0 : GS
  g1 : GS
  s0 : List V
  s1 : List V
  j0 : V
  j1 : V
  rows : List V
def MAd.all (a : MAd) : List Addr := [a.m, a.ph, a.pg, a.ps, a.s0, a.s1, a.pj, a.pr, a.g0.g, a.g0.k, a.g0.w, a.g1.g, a.g1.k, a.g1.w]
def mFields (a : MAd) (s : MS) : List (Str × V) := [("count", .int s.count), ("held", .ref a.ph), ("guards", .ref a.pg), ("stored", .ref a.ps), ("journals", .ref a.pj), ("rows", .ref a.pr)]
structure MAt (K : PySem.W.Frag) (H : Hp) (a : MAd) (s : MS) : Prop where
  m : H a.m = some (.ins (He.ga K "Memory") a.dx (mFields a s))
  h : H a.ph = some (.lst s.held)
  hl : s.held.length = 70
  gs : H a.pg = some (.lst [.ref a.g0.g, .ref a.g1.g])
  g0 : GAt K H a.g0 s.g0
  g1 : GAt K H a.g1 s.g1
  ss : H a.ps = some (.lst [.ref a.s0, .ref a.s1])
  s0 : H a.s0 = some (.lst s.s0)
  l0 : s.s0.length = 8
  s1 : H a.s1 = some (.lst s.s1)
  l1 : s.s1.length = 8
  js : H a.pj = some (.lst [s.j0, s.j1])
  r : H a.pr = some (.lst s.rows)
  al : AL a.all H
theorem MAt.same {K : PySem.W.Frag} {H H' : Hp} {a : MAd} {s : MS} (h : MAt K H a s) (e : Same H H') : MAt K H' a s :=
  ⟨e _ _ h.m, e _ _ h.h, h.hl, e _ _ h.gs, h.g0.same e, h.g1.same e, e _ _ h.ss, e _ _ h.s0, h.l0, e _ _ h.s1, h.l1, e _ _ h.js, e _ _ h.r, h.al.same e⟩
theorem MAt.stays {K : PySem.W.Frag} {H H' : Hp} {a : MAd} {s : MS} {fp : List Addr} (h : MAt K H a s) (e : Stays fp H H') (n : ∀ x ∈ a.all, x ∉ fp) : MAt K H' a s :=
  have q : ∀ x o, x ∈ a.all → H x = some o → H' x = some o := fun x o m g => e x o g (n x m)
  ⟨q _ _ (by simp [MAd.all]) h.m, q _ _ (by simp [MAd.all]) h.h, h.hl, q _ _ (by simp [MAd.all]) h.gs, ⟨q _ _ (by simp [MAd.all]) h.g0.g, q _ _ (by simp [MAd.all]) h.g0.k, q _ _ (by simp [MAd.all]) h.g0.w⟩,
    ⟨q _ _ (by simp [MAd.all]) h.g1.g, q _ _ (by simp [MAd.all]) h.g1.k, q _ _ (by simp [MAd.all]) h.g1.w⟩, q _ _ (by simp [MAd.all]) h.ss, q _ _ (by simp [MAd.all]) h.s0, h.l0, q _ _ (by simp [MAd.all]) h.s1, h.l1, q _ _ (by simp [MAd.all]) h.js, q _ _ (by simp [MAd.all]) h.r,
    h.al.stays e fun x m f => absurd f (n x m)⟩
/-! ### a new one -/
def valsIn (d j : Nat) (xs : List V) : List V := (List.range j).foldl (fun xs i => xs.set (24 * d + i) .non) xs
def valsWd (d j : Nat) (xs : List V) : List V := (List.range j).foldl (fun xs i => xs.set (56 + 6 * d + i) .non) xs
def valsAt : Nat → List V
  | 0 => List.replicate 70 (.int 0)
  | d + 1 => valsWd d 6 (valsIn d 8 (valsAt d))
theorem valsIn_len (d j : Nat) (xs : List V) : (valsIn d j xs).length = xs.length := by
  unfold valsIn
  induction j with
  | zero => rfl
  | succ j ih => rw [List.range_succ, List.foldl_append]; simp [ih]
theorem valsWd_len (d j : Nat) (xs : List V) : (valsWd d j xs).length = xs.length := by
  unfold valsWd
  induction j with
  | zero => rfl
  | succ j ih => rw [List.range_succ, List.foldl_append]; simp [ih]
theorem valsAt_len : ∀ d, (valsAt d).length = 70
  | 0 => by simp [valsAt]
  | d + 1 => by
    show (valsWd d 6 (valsIn d 8 (valsAt d))).length = 70
    rw [valsWd_len, valsIn_len, valsAt_len d]
theorem valsIn_succ (d j : Nat) (xs : List V) : valsIn d (j + 1) xs = (valsIn d j xs).set (24 * d + j) .non := by
  unfold valsIn
  rw [List.range_succ, List.foldl_append]
  rfl
theorem valsWd_succ (d j : Nat) (xs : List V) : valsWd d (j + 1) xs = (valsWd d j xs).set (56 + 6 * d + j) .non := by
  unfold valsWd
  rw [List.range_succ, List.foldl_append]
  rfl
def gs0 : GS := ⟨[], [], 0⟩
def zero4 : PyData := .tuple ([0, 0, 0, 0].map .int)
def ms0 (b0 b1 j0 j1 : V) : MS := ⟨0, valsAt 2, gs0, gs0, List.replicate 8 b0, List.replicate 8 b1, j0, j1, []⟩
end Rb
/-! Rb: the top's run where a dict is written whose keys are tuples: a run of trees (semE) and rules on what a run reaches (TR), of known length at most. -/
namespace RbH
open PySem PySem.W PySem.Calls PyProof.Rows HandSHeadRun
/-! ### what a run reaches -/
section
variable (tb : String → Option Builtin) (p : Program) (w : World) (n₀ : Nat) (ann : Option Value)
/-- x comes from s to s' with the value a, in at most n steps, over any stack of these places -/
def TR {α : Type} (n : Nat) (W : List (Code × Pos)) (hd : Option Value) (c : Code) (lv : List Value → List Value) (pos : Pos) (s : Shared) (x : Sem α) (a : α) (pos' : Pos) (s' : Shared) : Prop :=
  ∀ (B : List Frame), B.map Frame.where_ = W → splitAtGen B = none → topHandled B = hd → ∀ (K : α → Sem Fin) (H : Value → Sem Fin),
    ∃ m, m ≤ n ∧ ∀ N r, topRun tb p w n₀ ann N s' ⟨K a, c, pos', B⟩ = some r → topRun tb p w n₀ ann (m + N) s ⟨x.wrap K H id lv, c, pos, B⟩ = some r
end
section
variable {tb : String → Option Builtin} {p : Program} {w : World} {n₀ : Nat} {ann : Option Value} {α β : Type} {n m : Nat} {W : List (Code × Pos)} {hd : Option Value} {c : Code} {lv : List Value → List Value} {pos pos1 pos2 : Pos} {s s1 s2 : Shared} {x : Sem α} {a : α}
theorem TR.pure : TR tb p w n₀ ann 0 W hd c lv pos s (.pure a) a pos s := fun B _ _ _ K H => ⟨0, Nat.le_refl 0, fun N r h => by rw [Nat.zero_add]; exact h⟩
theorem TR.mono (h : TR tb p w n₀ ann n W hd c lv pos s x a pos1 s1) (k : n ≤ m) : TR tb p w n₀ ann m W hd c lv pos s x a pos1 s1 := fun B b1 b2 b3 K H => by
  obtain ⟨j, j1, j2⟩ := h B b1 b2 b3 K H
  exact ⟨j, Nat.le_trans j1 k, j2⟩
theorem TR.bind {f : α → Sem β} {b : β} (h : TR tb p w n₀ ann n W hd c lv pos s x a pos1 s1) (k : TR tb p w n₀ ann m W hd c lv pos1 s1 (f a) b pos2 s2) : TR tb p w n₀ ann (n + m) W hd c lv pos s (x.bind f) b pos2 s2 := fun B b1 b2 b3 K H => by
  obtain ⟨j, j1, j2⟩ := h B b1 b2 b3 (fun a => (f a).wrap K H id lv) H
  obtain ⟨i, i1, i2⟩ := k B b1 b2 b3 K H
  refine ⟨j + i, by omega, fun N r q => ?_⟩
  rw [Sem.bind_eq_wrap, Sem.wrap_wrap, Nat.add_assoc]
  exact j2 _ r (i2 N r q)
theorem TR.bindM {f : α → Sem β} {b : β} (h : TR tb p w n₀ ann n W hd c lv pos s x a pos1 s1) (k : TR tb p w n₀ ann m W hd c lv pos1 s1 (f a) b pos2 s2) : TR tb p w n₀ ann (n + m) W hd c lv pos s (x >>= f) b pos2 s2 := TR.bind h k
/-- one step -/
theorem topRun_go {N : Nat} {s s' : Shared} {t t' : Thread} {r : Shared} (ht : through t = false) (hk : stepOk n₀ ann t = true) (hs : step (denote tb) p w s t = .go s' t') (h : topRun tb p w n₀ ann N s' t' = some r) : topRun tb p w n₀ ann (N + 1) s t = some r := by
  unfold topRun
  rw [ht, hk, hs]
  exact h
theorem TR.step1 {y : Sem α} (h : ∀ (B : List Frame) (K : α → Sem Fin) (H : Value → Sem Fin), B.map Frame.where_ = W → splitAtGen B = none → topHandled B = hd →
      through ⟨x.wrap K H id lv, c, pos, B⟩ = false ∧ stepOk n₀ ann ⟨x.wrap K H id lv, c, pos, B⟩ = true ∧ step (denote tb) p w s ⟨x.wrap K H id lv, c, pos, B⟩ = .go s1 ⟨y.wrap K H id lv, c, pos1, B⟩)
    (k : TR tb p w n₀ ann n W hd c lv pos1 s1 y a pos2 s2) : TR tb p w n₀ ann (n + 1) W hd c lv pos s x a pos2 s2 := fun B b1 b2 b3 K H => by
  obtain ⟨j, j1, j2⟩ := k B b1 b2 b3 K H
  obtain ⟨h1, h2, h3⟩ := h B K H b1 b2 b3
  refine ⟨j + 1, by omega, fun N r q => ?_⟩
  rw [show j + 1 + N = (j + N) + 1 by omega]
  exact topRun_go h1 h2 h3 (j2 N r q)
theorem thr {cur : Sem Fin} (h : ∀ f, cur ≠ .pure f) {B : List Frame} : through ⟨cur, c, pos, B⟩ = false := by
  unfold through
  cases cur with
  | pure f => exact absurd rfl (h f)
  | _ => simp
theorem TR.rule {t : String} {k : Unit → Sem α} (h : TR tb p w n₀ ann n W hd c lv pos s (k ()) a pos1 s1) : TR tb p w n₀ ann (n + 1) W hd c lv pos s (.rule t k) a pos1 s1 :=
  TR.step1 (fun B K H _ _ _ => ⟨thr (by intro f z; cases z), rfl, by obtain ⟨h, g, d, t, o⟩ := s; rfl⟩) h
theorem TR.at {q : Pos} {k : Unit → Sem α} (h : TR tb p w n₀ ann n W hd c lv q s (k ()) a pos1 s1) : TR tb p w n₀ ann (n + 1) W hd c lv pos s (.at q k) a pos1 s1 :=
  TR.step1 (fun B K H _ _ _ => ⟨thr (by intro f z; cases z), rfl, by obtain ⟨h, g, d, t, o⟩ := s; rfl⟩) h
theorem TR.point {l : List Value} {k : Unit → Sem α} (h : TR tb p w n₀ ann n W hd c lv pos s (k ()) a pos1 s1) : TR tb p w n₀ ann (n + 1) W hd c lv pos s (.point l k) a pos1 s1 :=
  TR.step1 (fun B K H _ _ _ => ⟨thr (by intro f z; cases z), rfl, by obtain ⟨h, g, d, t, o⟩ := s; rfl⟩) h
theorem TR.ask {k : _ → Sem α} (h : TR tb p w n₀ ann n W hd c lv pos s (k ⟨p, w.params⟩) a pos1 s1) : TR tb p w n₀ ann (n + 1) W hd c lv pos s (.ask k) a pos1 s1 :=
  TR.step1 (fun B K H _ _ _ => ⟨thr (by intro f z; cases z), rfl, by obtain ⟨h, g, d, t, o⟩ := s; rfl⟩) h
theorem TR.stack {k : List (Code × Pos) → Sem α} (h : TR tb p w n₀ ann n W hd c lv pos s (k ((c, pos) :: W)) a pos1 s1) : TR tb p w n₀ ann (n + 1) W hd c lv pos s (.stack k) a pos1 s1 :=
  TR.step1 (fun B K H hW _ _ => ⟨thr (by intro f z; cases z), rfl, by obtain ⟨h, g, d, t, o⟩ := s; subst hW; rfl⟩) h
theorem TR.handled {own : Bool} {k : Option Value → Sem α} (h : TR tb p w n₀ ann n W hd c lv pos s (k hd) a pos1 s1) : TR tb p w n₀ ann (n + 1) W hd c lv pos s (.handled own k) a pos1 s1 :=
  TR.step1 (fun B K H _ hB hh => ⟨thr (by intro f z; cases z), rfl, by
    obtain ⟨h, g, d, t, o⟩ := s
    subst hh
    cases own
    · rfl
    · simp only [Sem.wrap, step, hB, if_true]⟩) h
theorem TR.load {b : Addr} {q : Option Value} {o : Obj} {k : Obj → Sem α} (e : s.heap.get? b = some o) (h : TR tb p w n₀ ann n W hd c lv pos s (k o) a pos1 s1) : TR tb p w n₀ ann (n + 1) W hd c lv pos s (.load b q k) a pos1 s1 :=
  TR.step1 (fun B K H _ _ _ => ⟨thr (by intro f z; cases z), rfl, by
    obtain ⟨hp, g, d, t, o'⟩ := s
    simp only [Sem.wrap, step]
    rw [show hp.get? b = some o from e]⟩) h
/-- by the tree's step, where the tree comes through -/
theorem TR.tree {s s1 : SharedT} {y : Sem α} (hp : ∀ (K : α → Sem Fin) (H : Value → Sem Fin) f, x.wrap K H id lv ≠ .pure f) (hk : ∀ (K : α → Sem Fin) (H : Value → Sem Fin) B, stepOk n₀ ann ⟨x.wrap K H id lv, c, pos, B⟩ = true)
    (h : ∀ (K : α → Sem Fin) (H : Value → Sem Fin) B, stepT (denote tb) p w s ⟨x.wrap K H id lv, c, pos, B⟩ = some (s1, ⟨y.wrap K H id lv, c, pos1, B⟩))
    (k : TR tb p w n₀ ann n W hd c lv pos1 s1.abs y a pos2 s2) : TR tb p w n₀ ann (n + 1) W hd c lv pos s.abs x a pos2 s2 :=
  TR.step1 (fun B K H _ _ _ => ⟨thr (hp K H), hk K H B, stepT_spec (h K H B)⟩) k
theorem wrap_id : ∀ x : Sem α, x.wrap Sem.pure Sem.raise id id = x := by
  intro x
  induction x <;> simp only [Sem.wrap, id, *]
theorem TR.keep {vs : List Value} (h : TR tb p w n₀ ann n W hd c (fun l => lv (vs ++ l)) pos s x a pos1 s1) : TR tb p w n₀ ann n W hd c lv pos s (x.keep vs) a pos1 s1 := fun B b1 b2 b3 K H => by
  obtain ⟨j, j1, j2⟩ := h B b1 b2 b3 K H
  refine ⟨j, j1, fun N r q => ?_⟩
  rw [Sem.keep_eq_wrap, Sem.wrap_wrap]
  exact j2 N r q
end
/-! ### a run of trees, by the term's own form -/
def hdOf (h : Option Value) (hd : Option Value) : Option (Option Value) := match h with
  | none => some hd
  | some e => if e == byPass then none else some (some e)
def againOk : Code → Bool
  | .builtin i _ => !i.startsWith "lifetime."
  | _ => true
mutual
def semE (den : Code → Sem PySem.Fin) (p : Program) (w : World) (n₀ : Nat) (ann : Option Value) (ro : Bool) : Nat → {α : Type} → List (Code × Pos) → Option Value → Code → Pos → SharedT → Sem α → Nat → Option (α × Pos × SharedT × Nat)
  | 0, _, _, _, _, _, _, _, _ => none
  | m + 1, _, W, hd, c, pos, s, x, cnt => match x with
    | .pure a => some (a, pos, s, cnt)
    | .rule _ k => semE den p w n₀ ann ro m W hd c pos s (k ()) (cnt + 1)
    | .at q k => semE den p w n₀ ann ro m W hd c q s (k ()) (cnt + 1)
    | .point _ k => semE den p w n₀ ann ro m W hd c pos s (k ()) (cnt + 1)
    | .ask k => semE den p w n₀ ann ro m W hd c pos s (k ⟨p, w.params⟩) (cnt + 1)
    | .stack k => semE den p w n₀ ann ro m W hd c pos s (k ((c, pos) :: W)) (cnt + 1)
    | .handled _ k => semE den p w n₀ ann ro m W hd c pos s (k hd) (cnt + 1)
    | .load a _ k => match getT s a with
      | some o => semE den p w n₀ ann ro m W hd c pos s (k o) (cnt + 1)
      | none => none
    | .loadIfAlive a k => semE den p w n₀ ann ro m W hd c pos s (k (getT s a)) (cnt + 1)
    | .update a q f k => match ro with
      | true => none
      | false => match (Nat.ble n₀ a || a == mainNs || a == cStatics || ann == some (.ref a)) with
        | true => match stepT den p w s ⟨.update a q f fun _ => .pure (.done .next), c, pos, []⟩ with
          | some (s', _) => frS s' fun s' => semE den p w n₀ ann ro m W hd c pos s' (k ()) (cnt + 1)
          | none => none
        | false => none
    | .alloc o k => match ro with
      | true => none
      | false => match ((s.tree.ins s.n o).get s.n).isSome with
        | true => frS ⟨s.tree.ins s.n o, s.n + 1, s.life, s.gens, s.drawn, s.toks, s.os⟩ fun s' => semE den p w n₀ ann ro m W hd c pos s' (k s.n) (cnt + 1)
        | false => none
    | .fresh k => match ro with
      | true => none
      | false => frS ⟨s.tree, s.n, s.life, s.gens, s.drawn, s.toks + 1, s.os⟩ fun s' => semE den p w n₀ ann ro m W hd c pos s' (k s.toks) (cnt + 1)
    | .call c' h _ _ k => match hdOf h hd with
      | none => none
      | some hd' => match codeE den p w n₀ ann ro m ((c, pos) :: W) hd' c' pos s (cnt + 1) with
        | some (f, _, s', cnt') => semE den p w n₀ ann ro m W hd c pos s' (k (.ok f)) cnt'
        | none => none
    | _ => none
def codeE (den : Code → Sem PySem.Fin) (p : Program) (w : World) (n₀ : Nat) (ann : Option Value) (ro : Bool) : Nat → List (Code × Pos) → Option Value → Code → Pos → SharedT → Nat → Option (Flow × Pos × SharedT × Nat)
  | 0, _, _, _, _, _, _ => none
  | m + 1, W, hd, c, pos, s, cnt => match semE den p w n₀ ann ro m W hd c pos s (den c) cnt with
    | some (.done f, pos', s', cnt') => some (f, pos', s', cnt' + 1)
    | some (.again c2, pos', s', cnt') => match againOk c2 with
      | true => codeE den p w n₀ ann ro m W hd c2 pos' s' (cnt' + 1)
      | false => none
    | none => none
end
section
variable {tb : String → Option Builtin} {p : Program} {w : World} {n₀ : Nat} {ann : Option Value}
/-- what codeE says: with the frame of its caller above the stack -/
def CR (tb : String → Option Builtin) (p : Program) (w : World) (n₀ : Nat) (ann : Option Value) (n : Nat) (W : List (Code × Pos)) (hd : Option Value) (c : Code) (pos : Pos) (s : Shared) (f : Flow) (s' : Shared) : Prop :=
  ∀ (k : Result → Sem PySem.Fin) (h : Option Value) (g : Bool) (l : List Value) (cd : Code) (p₀ : Pos) (kept : List Value) (B : List Frame), (cd, p₀) :: B.map Frame.where_ = W → splitAtGen B = none → topHandled (.ret k h g l cd p₀ kept :: B) = hd →
    ∃ m, m ≤ n ∧ ∀ N r, topRun tb p w n₀ ann N s' ⟨k (.ok f), cd, p₀, B⟩ = some r → topRun tb p w n₀ ann (m + N) s ⟨denote tb c, c, pos, .ret k h g l cd p₀ kept :: B⟩ = some r
theorem hd_kept {k k' : Result → Sem PySem.Fin} {h : Option Value} {g : Bool} {l : List Value} {cd : Code} {p₀ : Pos} {kept kept' : List Value} {B : List Frame} : topHandled (.ret k h g l cd p₀ kept :: B) = topHandled (.ret k' h g l cd p₀ kept' :: B) := by
  cases h <;> simp only [topHandled, topHandled.go]
theorem hdOf_ok {h hd hd' : Option Value} (e : hdOf h hd = some hd') {k : Result → Sem PySem.Fin} {g : Bool} {l : List Value} {cd : Code} {p₀ : Pos} {kept : List Value} {B : List Frame} (b : topHandled B = hd) : topHandled (.ret k h g l cd p₀ kept :: B) = hd' := by
  cases h with
  | none =>
    cases e
    rw [← b]
    simp only [topHandled, topHandled.go]
  | some v =>
    have e' : (if (v == byPass) = true then none else some (some v)) = some hd' := e
    split at e'
    · cases e'
    · rename_i q
      cases e'
      simp only [topHandled, topHandled.go]
      rw [if_neg q]
def keptCall (c' c : Code) (l : List Value) : List Value := match c', c with
  | .builtin _ a, _ => unmarked a.refs
  | .call f a, .builtin .. | .call f a, .call .. => unmarked (if l.contains borrowed then a.refs else f :: a.refs)
  | _, _ => []
theorem step_upd {den : Code → Sem PySem.Fin} {s s2 : Shared} {b : Addr} {q : Option Value} {f : Obj → Obj} {k k2 : Unit → Sem PySem.Fin} {c c2 : Code} {pos pos2 : Pos} {B B2 : List Frame} {t2 : Thread} (h : step den p w s ⟨.update b q f k2, c2, pos2, B2⟩ = .go s2 t2) :
    step den p w s ⟨.update b q f k, c, pos, B⟩ = .go s2 ⟨k (), c, pos, B⟩ := by
  obtain ⟨heap, gens, drawn, toks, os⟩ := s
  cases e : (heap.get? b).isSome with
  | false =>
    simp only [step, e, Bool.false_eq_true, if_false] at h
    cases h
  | true =>
    simp only [step, e, if_true, Step.go.injEq] at h ⊢
    exact ⟨h.1, trivial⟩
mutual
theorem semE_ok : ∀ (m : Nat) (ro : Bool) {α : Type} (W : List (Code × Pos)) (hd : Option Value) (c : Code) (pos : Pos) (s : SharedT) (x : Sem α) (cnt : Nat) (a : α) (pos' : Pos) (s' : SharedT) (cnt' : Nat),
    semE (denote tb) p w n₀ ann ro m W hd c pos s x cnt = some (a, pos', s', cnt') → ∃ n, cnt' = cnt + n ∧ (∀ lv, TR tb p w n₀ ann n W hd c lv pos s.abs x a pos' s'.abs) ∧ (ro = true → s' = s)
  | 0, _, _, _, _, _, _, _, _, _, _, _, _, _, h => by simp [semE] at h
  | m + 1, ro, α, W, hd, c, pos, s, x, cnt, a, pos', s', cnt', h => by
    cases x with
    | pure b =>
      simp only [semE] at h
      cases h
      exact ⟨0, rfl, fun _ => TR.pure, fun _ => rfl⟩
    | rule t k =>
      simp only [semE] at h
      obtain ⟨n, e, t, r⟩ := semE_ok m _ _ _ _ _ _ _ _ _ _ _ _ h
      exact ⟨n + 1, by omega, fun lv => TR.rule (t lv), r⟩
    | «at» q k =>
      simp only [semE] at h
      obtain ⟨n, e, t, r⟩ := semE_ok m _ _ _ _ _ _ _ _ _ _ _ _ h
      exact ⟨n + 1, by omega, fun lv => TR.at (t lv), r⟩
    | point l k =>
      simp only [semE] at h
      obtain ⟨n, e, t, r⟩ := semE_ok m _ _ _ _ _ _ _ _ _ _ _ _ h
      exact ⟨n + 1, by omega, fun lv => TR.point (t lv), r⟩
    | ask k =>
      simp only [semE] at h
      obtain ⟨n, e, t, r⟩ := semE_ok m _ _ _ _ _ _ _ _ _ _ _ _ h
      exact ⟨n + 1, by omega, fun lv => TR.ask (t lv), r⟩
    | stack k =>
      simp only [semE] at h
      obtain ⟨n, e, t, r⟩ := semE_ok m _ _ _ _ _ _ _ _ _ _ _ _ h
      exact ⟨n + 1, by omega, fun lv => TR.stack (t lv), r⟩
    | handled o k =>
      simp only [semE] at h
      obtain ⟨n, e, t, r⟩ := semE_ok m _ _ _ _ _ _ _ _ _ _ _ _ h
      exact ⟨n + 1, by omega, fun lv => TR.handled (t lv), r⟩
    | load b q k =>
      simp only [semE] at h
      split at h
      · rename_i o eo
        obtain ⟨n, e, t, r⟩ := semE_ok m _ _ _ _ _ _ _ _ _ _ _ _ h
        exact ⟨n + 1, by omega, fun lv => TR.load (by rw [← getT_eq]; exact eo) (t lv), r⟩
      · cases h
    | loadIfAlive b k =>
      simp only [semE] at h
      obtain ⟨n, e, t, r⟩ := semE_ok m _ _ _ _ _ _ _ _ _ _ _ _ h
      refine ⟨n + 1, by omega, fun lv => TR.step1 (fun B K H _ _ _ => ⟨thr (by intro f z; cases z), rfl, ?_⟩) (t lv), r⟩
      rw [getT_eq]
      rfl
    | update b q f k =>
      simp only [semE] at h
      cases ro with
      | true => cases h
      | false =>
        cases ok : (Nat.ble n₀ b || b == mainNs || b == cStatics || ann == some (.ref b)) with
        | false =>
          simp only [ok] at h
          cases h
        | true =>
          simp only [ok] at h
          cases es : stepT (denote tb) p w s ⟨.update b q f fun _ => .pure (.done .next), c, pos, []⟩ with
          | none =>
            simp only [es] at h
            cases h
          | some v =>
            obtain ⟨s2, t2⟩ := v
            simp only [es, frS_eq] at h
            obtain ⟨n, e, t, r⟩ := semE_ok m _ _ _ _ _ _ _ _ _ _ _ _ h
            refine ⟨n + 1, by omega, fun lv => TR.step1 (fun B K H _ _ _ => ⟨thr (by intro f z; cases z), ?_, ?_⟩) (t lv), fun z => by cases z⟩
            · exact ok
            · exact step_upd (k := fun u => (k u).wrap K H id lv) (stepT_spec es)
    | alloc o k =>
      simp only [semE] at h
      cases ro with
      | true => cases h
      | false =>
        cases g : ((s.tree.ins s.n o).get s.n).isSome with
        | false =>
          simp only [g] at h
          cases h
        | true =>
          simp only [g, frS_eq] at h
          obtain ⟨n, e, t, r⟩ := semE_ok m _ _ _ _ _ _ _ _ _ _ _ _ h
          refine ⟨n + 1, by omega, fun lv => TR.step1 (fun B K H _ _ _ => ⟨thr (by intro f z; cases z), rfl, ?_⟩) (t lv), fun z => by cases z⟩
          obtain ⟨T, n', life, gens, drawn, toks, os⟩ := s
          have g' : ((T.ins n' o).get n').isSome = true := g
          simp only [SharedT.abs, Sem.wrap, step]
          rw [absHeap_ins g', absHeap_size]
    | fresh k =>
      simp only [semE] at h
      cases ro with
      | true => cases h
      | false =>
        simp only [frS_eq] at h
        obtain ⟨n, e, t, r⟩ := semE_ok m _ _ _ _ _ _ _ _ _ _ _ _ h
        exact ⟨n + 1, by omega, fun lv => TR.step1 (fun B K H _ _ _ => ⟨thr (by intro f z; cases z), rfl, rfl⟩) (t lv), fun z => by cases z⟩
    | call c' hv g l k =>
      simp only [semE] at h
      cases eh : hdOf hv hd with
      | none =>
        simp only [eh] at h
        cases h
      | some hd' =>
        simp only [eh] at h
        cases ec : codeE (denote tb) p w n₀ ann ro m ((c, pos) :: W) hd' c' pos s (cnt + 1) with
        | none =>
          simp only [ec] at h
          cases h
        | some v =>
          obtain ⟨f, p1, s1, cnt1⟩ := v
          simp only [ec] at h
          obtain ⟨n1, e1, t1, r1⟩ := codeE_ok m _ _ _ _ _ _ _ _ _ _ _ ec
          obtain ⟨n, e, t, r⟩ := semE_ok m _ _ _ _ _ _ _ _ _ _ _ _ h
          refine ⟨n1 + n + 1, by omega, fun lv B b1 b2 b3 K H => ?_, fun z => by rw [r z, r1 z]⟩
          obtain ⟨j, j1, j2⟩ := t lv B b1 b2 b3 K H
          obtain ⟨i, i1, i2⟩ := t1 (fun r => (k r).wrap K H id lv) hv (id g) (lv l) c pos (keptCall c' c (lv l)) B (by rw [b1]) b2 (hdOf_ok eh b3)
          refine ⟨i + j + 1, by omega, fun N r q => ?_⟩
          rw [show i + j + 1 + N = (i + (j + N)) + 1 by omega]
          refine topRun_go (thr (by intro f z; cases z)) rfl ?_ (i2 _ r (j2 N r q))
          obtain ⟨T, n', life, gens, drawn, toks, os⟩ := s
          rfl
    | _ => simp only [semE] at h; cases h
theorem codeE_ok : ∀ (m : Nat) (ro : Bool) (W : List (Code × Pos)) (hd : Option Value) (c : Code) (pos : Pos) (s : SharedT) (cnt : Nat) (f : Flow) (pos' : Pos) (s' : SharedT) (cnt' : Nat),
    codeE (denote tb) p w n₀ ann ro m W hd c pos s cnt = some (f, pos', s', cnt') → ∃ n, cnt' = cnt + n ∧ CR tb p w n₀ ann n W hd c pos s.abs f s'.abs ∧ (ro = true → s' = s)
  | 0, _, _, _, _, _, _, _, _, _, _, _, h => by simp [codeE] at h
  | m + 1, ro, W, hd, c, pos, s, cnt, f, pos', s', cnt', h => by
    simp only [codeE] at h
    split at h
    · rename_i f1 p1 s1 cnt1 e1
      cases h
      obtain ⟨n, e, t, r⟩ := semE_ok m _ _ _ _ _ _ _ _ _ _ _ _ e1
      refine ⟨n + 1, by omega, fun k hv g l cd p₀ kept B b1 b2 b3 => ?_, r⟩
      have b1' : (Frame.ret k hv g l cd p₀ kept :: B).map Frame.where_ = W := b1
      obtain ⟨j, j1, j2⟩ := t id (.ret k hv g l cd p₀ kept :: B) b1' (by simp only [splitAtGen, b2, Option.map_none]) b3 Sem.pure Sem.raise
      refine ⟨j + 1, by omega, fun N r q => ?_⟩
      have j3 := j2 (N + 1) r (topRun_go (t' := ⟨k (.ok f), cd, p₀, B⟩) rfl rfl rfl q)
      rw [wrap_id] at j3
      rw [show j + 1 + N = j + (N + 1) by omega]
      exact j3
    · rename_i c2 p1 s1 cnt1 e1
      split at h
      · rename_i ok
        obtain ⟨n, e, t, r⟩ := semE_ok m _ _ _ _ _ _ _ _ _ _ _ _ e1
        obtain ⟨n2, e2, t2, r2⟩ := codeE_ok m _ _ _ _ _ _ _ _ _ _ _ h
        refine ⟨n + n2 + 1, by omega, fun k hv g l cd p₀ kept B b1 b2 b3 => ?_, fun z => by rw [r2 z, r z]⟩
        have b1' : (Frame.ret k hv g l cd p₀ kept :: B).map Frame.where_ = W := b1
        obtain ⟨j, j1, j2⟩ := t id (.ret k hv g l cd p₀ kept :: B) b1' (by simp only [splitAtGen, b2, Option.map_none]) b3 Sem.pure Sem.raise
        obtain ⟨i, i1, i2⟩ := t2 k hv g l cd p₀ (keptBy c c2 l kept) B b1 b2 (hd_kept.trans b3)
        refine ⟨j + 1 + i, by omega, fun N r q => ?_⟩
        have ok' : stepOk n₀ ann ⟨.pure (.again c2), c, p1, .ret k hv g l cd p₀ kept :: B⟩ = true := by
          cases c2 <;> first | rfl | (simp only [againOk] at ok; simp only [stepOk, Thread.calm, Thread.atCollectorCode, Thread.yieldsInsideHandler]; rw [Bool.not_eq_true'] at ok; rw [ok]; rfl)
        have j3 := j2 (i + N + 1) r (topRun_go (s' := s1.abs) (t' := ⟨denote tb c2, c2, p1, .ret k hv g l cd p₀ (keptBy c c2 l kept) :: B⟩) rfl ok' (by
          obtain ⟨T, n', life, gens, drawn, toks, os⟩ := s1
          exact step_again) (i2 N r q))
        rw [wrap_id] at j3
        rw [show j + 1 + i + N = j + (i + N + 1) by omega]
        exact j3
      · cases h
    · cases h
end
end
/-! ### the dict's own words -/
section
variable {tb : String → Option Builtin} {p : Program} {w : World} {n₀ : Nat} {ann : Option Value} {α β : Type} {n m R : Nat} {W : List (Code × Pos)} {hd : Option Value} {c : Code} {lv : List Value → List Value} {pos pos1 pos2 : Pos} {s s1 s2 : Shared} {x : Sem α} {a : α}
theorem TR.holding {vs : List Value} (h : ∀ lv, TR tb p w n₀ ann n W hd c lv pos s x a pos1 s1) : TR tb p w n₀ ann n W hd c lv pos s (holding vs x) a pos1 s1 := by
  unfold PySem.holding
  split
  · exact h lv
  · exact TR.keep (h _)
theorem TR.ite {q : Prop} [Decidable q] {y : Sem α} (h1 : q → TR tb p w n₀ ann n W hd c lv pos s x a pos1 s1) (h2 : ¬ q → TR tb p w n₀ ann n W hd c lv pos s y a pos1 s1) : TR tb p w n₀ ann n W hd c lv pos s (if q then x else y) a pos1 s1 := by
  by_cases h : q
  · rw [if_pos h]
    exact h1 h
  · rw [if_neg h]
    exact h2 h
theorem forIn_TR {ι σ : Type} {f : ι → σ → Sem (ForInStep σ)} {acc : σ} : ∀ l : List ι, (∀ i ∈ l, TR tb p w n₀ ann n W hd c lv pos s (f i acc) (.yield acc) pos s) → TR tb p w n₀ ann (n * l.length) W hd c lv pos s (forIn l acc f) acc pos s
  | [], _ => by
    rw [List.forIn_nil]
    exact TR.pure
  | i :: l, h => by
    rw [List.forIn_cons]
    refine (TR.bindM (h i (by simp)) (forIn_TR l fun j m => h j (by simp [m]))).mono ?_
    rw [List.length_cons, Nat.mul_succ]
    omega
theorem entries_TR {d : Addr} {part : Option Value} {o : Obj} {es : Array DictEntry} {ep : Nat} (e : s.heap.get? d = some o) (ho : o.data = .dict es ep) : TR tb p w n₀ ann 1 W hd c lv pos s (dictEntries d part) es pos s := by
  unfold dictEntries loadPart
  refine TR.bindM (n := 1) (m := 0) (TR.load e TR.pure) ?_
  rw [ho]
  exact TR.pure
theorem epoch_TR {d : Addr} {part : Option Value} {o : Obj} {es : Array DictEntry} {ep : Nat} (e : s.heap.get? d = some o) (ho : o.data = .dict es ep) : TR tb p w n₀ ann 1 W hd c lv pos s (dictEpoch d part) ep pos s := by
  unfold dictEpoch loadPart
  refine TR.bindM (n := 1) (m := 0) (TR.load e TR.pure) ?_
  rw [ho]
  exact TR.pure
theorem tells_TR {key : Value} {stored : List Value} (hk : ∀ lv, TR tb p w n₀ ann R W hd c lv pos s (eqIsQuiet 8 key) true pos s) (hs : ∀ k ∈ stored, ∀ lv, TR tb p w n₀ ann R W hd c lv pos s (eqIsQuiet 8 k) true pos s) :
    TR tb p w n₀ ann (R + R * stored.length) W hd c lv pos s (tableMayTell key stored) false pos s := by
  unfold tableMayTell
  split
  · exact TR.pure.mono (Nat.zero_le _)
  · refine TR.bindM (hk lv) ?_
    rw [if_neg (by simp)]
    refine (TR.bindM (m := 0) (forIn_TR (n := R) (acc := ((none : Option Bool), ())) stored fun k hm => ?_) ?_).mono (Nat.le_refl _)
    · refine (TR.bindM (m := 0) (hs k hm lv) ?_).mono (Nat.le_refl _)
      rw [if_neg (by simp)]
      exact TR.pure
    · exact TR.pure
theorem places_at {es : Array DictEntry} {h : Int} {i : Nat} (hi : i ∈ placesWithHash es.size (fun i => es[i]?.map (·.hash)) h) : ∃ e, es[i]? = some e ∧ e ∈ es.toList := by
  unfold placesWithHash at hi
  have := (List.mem_filter.mp hi).1
  have lt : i < es.size := by simpa using this
  exact ⟨es[i], Array.getElem?_eq_getElem lt, Array.getElem_mem_toList lt⟩
theorem places_len {es : Array DictEntry} {h : Int} : (placesWithHash es.size (fun i => es[i]?.map (·.hash)) h).length ≤ es.size := by
  unfold placesWithHash
  exact Nat.le_trans (List.length_filter_le _ _) (by simp)
/-- a key that is none of those that stand: not found, whatever the hashes are -/
theorem find_TR {d b : Addr} {h : Int} {o : Obj} {es : Array DictEntry} {ep : Nat} (e : s.heap.get? d = some o) (ho : o.data = .dict es ep) (hne : ∀ e ∈ es.toList, (e.key == Value.ref b) = false)
    (hk : ∀ lv, TR tb p w n₀ ann R W hd c lv pos s (eqIsQuiet 8 (.ref b)) true pos s) (hq : ∀ e ∈ es.toList, ∀ lv, TR tb p w n₀ ann R W hd c lv pos s (eqIsQuiet 8 e.key) true pos s)
    (heq : ∀ e ∈ es.toList, ∀ lv, TR tb p w n₀ ann R W hd c lv pos s (eqBool e.key (.ref b)) false pos s) :
    TR tb p w n₀ ann (1 + (R + R * es.size) + (R + 4) * es.size) W hd c lv pos s (dictFind d (.ref b) h) none pos s := by
  unfold dictFind
  refine TR.holding fun lv => ?_
  refine (TR.bindM (m := (R + R * es.size) + (R + 4) * es.size) (entries_TR e ho) ?_).mono (by omega)
  dsimp only
  have hc : ((Value.ref b :: List.filterMap (fun i => Option.map (fun x : DictEntry => x.key) es[i]?) (placesWithHash es.size (fun i => Option.map (fun x : DictEntry => x.hash) es[i]?) h)).all carriedByValue = true) = False := by
    simp [carriedByValue]
  rw [if_neg (by rw [hc]; exact id)]
  have hany : (es.any fun e => e.key == Value.ref b && e.hash != h) = false := by
    rw [Array.any_eq_false']
    intro x hx
    have := hne x (Array.mem_toList_iff.mpr hx)
    rw [this]
    simp
  rw [if_neg (by rw [hany]; decide)]
  have hst : ∀ k ∈ List.filterMap (fun i => Option.map (fun x : DictEntry => x.key) es[i]?) (placesWithHash es.size (fun i => Option.map (fun x : DictEntry => x.hash) es[i]?) h), ∀ lv, TR tb p w n₀ ann R W hd c lv pos s (eqIsQuiet 8 k) true pos s := by
    intro k hm
    obtain ⟨i, hi, e1⟩ := List.mem_filterMap.mp hm
    obtain ⟨e', e2, e3⟩ := places_at hi
    rw [e2] at e1
    cases e1
    exact hq e' e3
  refine TR.ite (fun _ => ?_) (fun _ => ?_)
  · refine (TR.bindM (n := 0) (m := (R + 4) * es.size) TR.pure ?_).mono (by omega)
    · rw [if_neg (by simp)]
      refine (TR.bindM (m := 0) (forIn_TR (n := R + 4) (acc := ((none : Option (Option Nat)), (none : Option Nat))) _ fun i hi => ?_) ?_).mono (Nat.mul_le_mul_left _ places_len)
      · obtain ⟨e', e1, e2⟩ := places_at hi
        rw [e1]
        dsimp only
        refine TR.ite (fun _ => ?_) (fun _ => ?_)
        · refine (TR.bindM (n := 1) (m := R + 2) (epoch_TR e ho) (TR.bindM (m := 2) (heq e' e2 lv) (TR.bindM (n := 1) (m := 1) (epoch_TR e ho) ?_))).mono (by omega)
          rw [if_neg (by simp), if_neg (by decide)]
          exact TR.rule TR.pure
        · exact TR.pure.mono (Nat.zero_le _)
      · exact TR.pure
  · refine (TR.bindM (m := (R + 4) * es.size) (tells_TR hk hst) ?_).mono ?_
    · rw [if_neg (by simp)]
      refine (TR.bindM (m := 0) (forIn_TR (n := R + 4) (acc := ((none : Option (Option Nat)), (none : Option Nat))) _ fun i hi => ?_) ?_).mono (Nat.mul_le_mul_left _ places_len)
      · obtain ⟨e', e1, e2⟩ := places_at hi
        rw [e1]
        dsimp only
        refine TR.ite (fun _ => ?_) (fun _ => ?_)
        · refine (TR.bindM (n := 1) (m := R + 2) (epoch_TR e ho) (TR.bindM (m := 2) (heq e' e2 lv) (TR.bindM (n := 1) (m := 1) (epoch_TR e ho) ?_))).mono (by omega)
          rw [if_neg (by simp), if_neg (by decide)]
          exact TR.rule TR.pure
        · exact TR.pure.mono (Nat.zero_le _)
      · exact TR.pure
    have hl : (List.filterMap (fun i => Option.map (fun x : DictEntry => x.key) es[i]?) (placesWithHash es.size (fun i => Option.map (fun x : DictEntry => x.hash) es[i]?) h)).length ≤ es.size := Nat.le_trans (List.length_filterMap_le _ _) places_len
    have := Nat.mul_le_mul_left R hl
    omega
end
/-! ### the script of a dict's display -/
def redu (i : Int) : Int := if (decide (-2 ^ 63 ≤ i) && decide (i < 2 ^ 63)) = true then (if (i == -1) = true then -2 else i) else
  let m : Int := 2 ^ 61 - 1
  let h : Int := ↑i.natAbs % m
  let h : Int := if i < 0 then -h else h
  if (h == -1) = true then -2 else h
def refuse (v : Value) : Sem Value := do
  rule "hash.unhashable"
  let __do_lift ← PySem.typeNameOf v
  raiseErrorMade "TypeError" (toString "unhashable type: '" ++ toString __do_lift ++ toString "'")
abbrev RB : Nat := 1000
section
variable (den : Code → Sem PySem.Fin) (p : Program) (w : World) (n₀ : Nat) (ann : Option Value) (M : Nat) (W : List (Code × Pos)) (hd : Option Value) (c : Code)
/-- a run that comes back to its place -/
def stayT {α : Type} (ro : Bool) (pos : Pos) (s : SharedT) (x : Sem α) : Option (α × SharedT × Nat) := match semE den p w n₀ ann ro M W hd c pos s x 0 with
  | some (a, pos', s', n) => (match decide (pos' = pos) with
    | true => some (a, s', n)
    | false => none)
  | none => none
def roB (pos : Pos) (s : SharedT) (x : Sem Bool) (b : Bool) : Bool := match stayT den p w n₀ ann M W hd c true pos s x with
  | some (b', _, n) => b' == b && Nat.ble n RB
  | none => false
def hashT (pos : Pos) (s : SharedT) (v : Value) : Option (Int × SharedT × Nat) := match stayT den p w n₀ ann M W hd c false pos s (cRoomFor "hash" [v]) with
  | some (_, s1, n1) => (match stayT den p w n₀ ann M W hd c false pos s1 (specialOf v (Str.ofString "__hash__")) with
    | some (r1, s2, n2) => (match r1 == some Value.none with
      | true => none
      | false => (match stayT den p w n₀ ann M W hd c false pos s2 (specialOf v (Str.ofString "__hash__")) with
        | some (r2, s3, n3) => (match r2.isNone with
          | true => none
          | false => (match stayT den p w n₀ ann M W hd c false pos s3 (callSpecialIfBoundUnlessNone? v (Str.ofString "__hash__") (refuse v)) with
            | some (some (.int i _), s4, n4) => some (redu i, s4, n1 + (n2 + (n3 + (n4 + 1))))
            | _ => none))
        | none => none))
    | none => none)
  | none => none
def putS (d : Addr) (h : Int) (k v : Value) : Sem Unit := do
  rule "dict.set.new-key-at-the-end"
  updateDictKeys d (fun x => x.push { hash := h, key := k, val := v }) (keyPart k)
def setT (d : Addr) (pos : Pos) (s : SharedT) (k v : Value) : Option (SharedT × Nat) := match k with
  | .ref b => (match hashT den p w n₀ ann M W hd c pos s (.ref b) with
    | some (h, s1, n1) => (match getT s1 d with
      | some o => (match o.data with
        | .dict es _ => (match roB den p w n₀ ann M W hd c pos s1 (eqIsQuiet 8 (.ref b)) true && es.toList.all fun e => !(e.key == Value.ref b) && (roB den p w n₀ ann M W hd c pos s1 (eqIsQuiet 8 e.key) true && roB den p w n₀ ann M W hd c pos s1 (eqBool e.key (.ref b)) false) with
          | true => (match stayT den p w n₀ ann M W hd c false pos s1 (putS d h (.ref b) v) with
            | some (_, s2, n2) => some (s2, n1 + ((1 + (RB + RB * es.size) + (RB + 4) * es.size) + n2))
            | none => none)
          | false => none)
        | _ => none)
      | none => none)
    | none => none)
  | _ => none
def storeT (d : Addr) (pos : Pos) : List (Value × Value) → SharedT → Nat → Option (SharedT × Nat)
  | [], s, n => some (s, n)
  | (k, v) :: r, s, n => match setT den p w n₀ ann M W hd c d pos s k v with
    | some (s1, n1) => storeT d pos r s1 (n + n1)
    | none => none
end
section
variable {tb : String → Option Builtin} {p : Program} {w : World} {n₀ : Nat} {ann : Option Value} {α β : Type} {M : Nat} {W : List (Code × Pos)} {hd : Option Value} {c : Code} {lv : List Value → List Value} {pos pos1 pos2 : Pos} {s s1 s2 : SharedT} {x : Sem α} {a : α}
theorem stay_ok {ro : Bool} {n : Nat} (h : stayT (denote tb) p w n₀ ann M W hd c ro pos s x = some (a, s1, n)) : (∀ lv, TR tb p w n₀ ann n W hd c lv pos s.abs x a pos s1.abs) ∧ (ro = true → s1 = s) := by
  unfold stayT at h
  split at h
  · rename_i a' pos' s' n' e
    split at h
    · rename_i ep
      cases h
      have ep := of_decide_eq_true ep
      subst ep
      obtain ⟨m, e1, e2, e3⟩ := semE_ok M ro _ _ _ _ _ _ _ _ _ _ _ e
      have : m = n := by omega
      subst this
      exact ⟨e2, e3⟩
    · cases h
  · cases h
theorem roB_ok {x : Sem Bool} {b : Bool} (h : roB (denote tb) p w n₀ ann M W hd c pos s x b = true) : ∀ lv, TR tb p w n₀ ann RB W hd c lv pos s.abs x b pos s.abs := by
  unfold roB at h
  split at h
  · rename_i b' s' n' e
    rw [Bool.and_eq_true] at h
    have e1 : b' = b := eq_of_beq h.1
    subst e1
    obtain ⟨t, k⟩ := stay_ok e
    have := k rfl
    subst this
    exact fun lv => (t lv).mono (Nat.le_of_ble_eq_true h.2)
  · cases h
theorem redu_TR {i : Int} {s : Shared} : TR tb p w n₀ ann 1 W hd c lv pos s (pyHashByItsType.reduced i) (redu i) pos s := by
  unfold pyHashByItsType.reduced redu
  by_cases q : (decide (-2 ^ 63 ≤ i) && decide (i < 2 ^ 63)) = true
  · rw [if_pos q, if_pos q]
    exact TR.pure.mono (Nat.zero_le _)
  · rw [if_neg q, if_neg q]
    exact TR.rule TR.pure
theorem hash_ok {b : Addr} {h : Int} {n : Nat} (e : hashT (denote tb) p w n₀ ann M W hd c pos s (.ref b) = some (h, s1, n)) : ∀ lv, TR tb p w n₀ ann n W hd c lv pos s.abs (pyHash (.ref b)) h pos s1.abs := by
  unfold hashT at e
  split at e
  · rename_i u t1 n1 e1
    split at e
    · rename_i r1 t2 n2 e2
      split at e
      · cases e
      · rename_i c1
        split at e
        · rename_i r2 t3 n3 e3
          split at e
          · cases e
          · rename_i c2
            split at e
            · rename_i i tk t4 n4 e4
              cases e
              intro lv
              show TR tb p w n₀ ann _ W hd c lv pos s.abs (pyHashByItsType (.ref b)) _ pos _
              unfold pyHashByItsType
              refine TR.bindM ((stay_ok e1).1 lv) (TR.bindM ((stay_ok e2).1 lv) ?_)
              dsimp only
              rw [if_neg (by rw [c1]; decide)]
              refine TR.bindM ((stay_ok e3).1 lv) ?_
              rw [if_neg (by rw [c2]; decide)]
              exact TR.bindM ((stay_ok e4).1 lv) redu_TR
            · cases e
        · cases e
    · cases e
  · cases e
theorem set_ok {d : Addr} {k v : Value} {n : Nat} (e : setT (denote tb) p w n₀ ann M W hd c d pos s k v = some (s2, n)) : ∀ lv, TR tb p w n₀ ann n W hd c lv pos s.abs (dictSet d k v) () pos s2.abs := by
  unfold setT at e
  split at e
  · rename_i b
    split at e
    · rename_i h s1 n1 e1
      split at e
      · rename_i o eo
        split at e
        · rename_i es ep ed
          split at e
          · rename_i ck
            split at e
            · rename_i u s3 n2 e2
              cases e
              intro lv
              rw [Bool.and_eq_true, List.all_eq_true] at ck
              obtain ⟨ck1, ck2⟩ := ck
              have ck3 : ∀ e ∈ es.toList, (e.key == Value.ref b) = false ∧ roB (denote tb) p w n₀ ann M W hd c pos s1 (eqIsQuiet 8 e.key) true = true ∧ roB (denote tb) p w n₀ ann M W hd c pos s1 (eqBool e.key (.ref b)) false = true := fun e he => by
                have := ck2 e he
                rw [Bool.and_eq_true, Bool.and_eq_true] at this
                exact ⟨by simpa using this.1, this.2.1, this.2.2⟩
              have hg : s1.abs.heap.get? d = some o := by rw [← getT_eq]; exact eo
              unfold dictSet
              refine TR.holding fun lv => TR.bindM (hash_ok e1 lv) ?_
              unfold dictSetHashed
              refine TR.holding fun lv => TR.bindM (find_TR hg ed (fun e he => (ck3 e he).1) (roB_ok ck1) (fun e he => roB_ok (ck3 e he).2.1) fun e he => roB_ok (ck3 e he).2.2) ?_
              exact (stay_ok e2).1 lv
            · cases e
          · cases e
        · cases e
      · cases e
    · cases e
  · cases e
theorem store_ok {d : Addr} : ∀ (vs : List (Value × Value)) (s s' : SharedT) (n n' : Nat), storeT (denote tb) p w n₀ ann M W hd c d pos vs s n = some (s', n') → ∃ m, n' = n + m ∧ ∀ lv, TR tb p w n₀ ann m W hd c lv pos s.abs (forIn vs PUnit.unit fun (x : Value × Value) (_ : PUnit) => match x with
    | (k, v) => (do dictSet d k v; pure (ForInStep.yield PUnit.unit) : Sem (ForInStep PUnit))) PUnit.unit pos s'.abs
  | [], s, s', n, n', h => by
    unfold storeT at h
    cases h
    exact ⟨0, rfl, fun lv => by rw [List.forIn_nil]; exact TR.pure⟩
  | (k, v) :: r, s, s', n, n', h => by
    unfold storeT at h
    split at h
    · rename_i s1 n1 e
      obtain ⟨m, e1, e2⟩ := store_ok r _ _ _ _ h
      refine ⟨n1 + m, by omega, fun lv => ?_⟩
      rw [List.forIn_cons]
      exact TR.bindM (n := n1 + 0) (TR.bindM (set_ok e lv) TR.pure) (e2 lv)
    · cases h
end
/-! ### the statement, the body, the top -/
section
variable (den : Code → Sem PySem.Fin) (p : Program) (w : World) (n₀ : Nat) (ann : Option Value) (M : Nat)
def newD : Sem Addr := alloc { cls := Value.type "dict", data := Data.dict #[] }
def dictStmtT (W : List (Code × Pos)) (hd : Option Value) (c : Code) (env : Env) (st : Stmt) (pos : Pos) (s : SharedT) : Option (Pos × SharedT × Nat) := match st with
  | .Assign targets (.Dict keys values posD) posA => (match keys.all (·.isSome) && (Nat.beq keys.length values.length && (Nat.ble 1 keys.length && Nat.ble keys.length 15)) with
    | true => (match semE den p w n₀ ann false M W hd c posA s (swapsWithSole targets (.Dict keys values posD) posA.line env) 0 with
      | some (false, _, s1, n1) => (match semE den p w n₀ ann false M W hd c posD s1 newD 0 with
        | some (d, pos2, s2, n2) => (match semE den p w n₀ ann false M W hd c pos2 s2 (evalPairs (PySem.pairTrees keys values env posD)) 0 with
          | some (vs, pos3, s3, n3) => (match storeT den p w n₀ ann M W hd c d pos3 vs s3 0 with
            | some (s4, n4) => (match semE den p w n₀ ann false M W hd c pos3 s4 (swappedStores targets (.Dict keys values posD) env) 0 with
              | some (sw, pos5, s5, n5) => (match semE den p w n₀ ann false M W hd c pos5 s5 (assignStores env (.ref d) sw ((assignEach targets env).map (·.2))) 0 with
                | some (.next, pos6, s6, n6) => some (pos6, s6, 1 + (n1 + ((1 + (n2 + (n3 + n4))) + (n5 + n6))))
                | _ => none)
              | none => none)
            | none => none)
          | none => none)
        | none => none)
      | _ => none)
    | false => none)
  | _ => none
def c00 : Code := .builtin "claim.caller" {}
def prep : Sem (Value × Addr) := do
  let code ← moduleCode p.main
  let frame ← newBodyFrame code mainNs mainNs
  pure (code, frame)
def topEnv (v : Value × Addr) : Env := { scope := p.main.scope, locals := mainNs, globals := mainNs, cells := [], code := v.1, frame := some v.2 }
def topT (i : Nat) (s0 : SharedT) : Option (SharedT × Nat) := match semE den p w n₀ ann false M [] none c00 default s0 (prep p) 0 with
  | some (v, pos, s1, n1) => (match semE den p w n₀ ann false M [(c00, pos)] none (.body (behindTheImports p) (topEnv p v)) pos s1 (blockStart (behindTheImports p) (topEnv p v)) 0 with
    | some (_, pos2, s2, n2) => (match semE den p w n₀ ann false M [(c00, pos)] none (.body (behindTheImports p) (topEnv p v)) pos2 s2 (execs ((behindTheImports p).take i) (topEnv p v)) 0 with
      | some (.next, pos3, s3, n3) => (match (behindTheImports p).drop i with
        | st :: rest => (match dictStmtT den p w n₀ ann M [(c00, pos)] none (.body (behindTheImports p) (topEnv p v)) (topEnv p v) st pos3 s3 with
          | some (pos4, s4, n4) => (match semE den p w n₀ ann false M [(c00, pos)] none (.body (behindTheImports p) (topEnv p v)) pos4 s4 (execs rest (topEnv p v)) 0 with
            | some (.next, _, s5, n5) => some (s5, n1 + ((n2 + (n3 + (n4 + n5)) + 1) + 1))
            | _ => none)
          | none => none)
        | [] => none)
      | _ => none)
    | none => none)
  | none => none
end
section
variable {tb : String → Option Builtin} {p : Program} {w : World} {n₀ : Nat} {ann : Option Value} {α β : Type} {M n m : Nat} {W : List (Code × Pos)} {hd : Option Value} {c : Code} {lv : List Value → List Value} {pos pos1 pos2 : Pos} {s s1 s2 : SharedT} {x : Sem α} {a : α} {env : Env}
theorem semE_TR {ro : Bool} (h : semE (denote tb) p w n₀ ann ro M W hd c pos s x 0 = some (a, pos1, s1, n)) : ∀ lv, TR tb p w n₀ ann n W hd c lv pos s.abs x a pos1 s1.abs := by
  obtain ⟨m, e1, e2, e3⟩ := semE_ok M ro _ _ _ _ _ _ _ _ _ _ _ h
  have : m = n := by omega
  subst this
  exact e2
theorem stmt_ok {st : Stmt} (h : dictStmtT (denote tb) p w n₀ ann M W hd c env st pos s = some (pos1, s1, n)) : ∀ lv, TR tb p w n₀ ann n W hd c lv pos s.abs (exec st env) .next pos1 s1.abs := by
  unfold dictStmtT at h
  split at h
  · rename_i targets keys values posD posA
    split at h
    · rename_i ck
      split at h
      · rename_i q1 t1 n1 e1
        split at h
        · rename_i d q2 t2 n2 e2
          split at h
          · rename_i vs q3 t3 n3 e3
            split at h
            · rename_i t4 n4 e4
              split at h
              · rename_i sw q5 t5 n5 e5
                split at h
                · rename_i q6 t6 n6 e6
                  cases h
                  intro lv
                  simp only [Bool.and_eq_true] at ck
                  obtain ⟨k1, k2, k3, k4⟩ := ck
                  have k2 := Nat.eq_of_beq_eq_true k2
                  have k3 := Nat.le_of_ble_eq_true k3
                  have k4 := Nat.le_of_ble_eq_true k4
                  have hn := PySem.pairTrees_length keys values env posD k1 k2
                  have hp0 : PySem.pairTrees keys values env posD ≠ [] := by
                    intro he
                    rw [he] at hn
                    simp at hn
                    omega
                  rw [arm_exec_Assign]
                  refine TR.bindM (n := 1) (TR.at TR.pure) (TR.bindM (semE_TR e1 lv) ?_)
                  rw [if_neg (by decide)]
                  refine TR.bindM (n := 1 + (n2 + (n3 + n4))) (a := Value.ref d) ?_ (TR.bindM (semE_TR e5 lv) (semE_TR e6 lv))
                  rw [arm_eval_Dict, PySem.zip_pairTrees keys values env posD k1 k2, PySem.dictDisplay_pairs _ hp0 (by rw [hn]; omega)]
                  refine TR.bindM (n := 1) (TR.at TR.pure) (TR.bindM (m := 0) (n := n2 + (n3 + n4)) ?_ TR.pure)
                  unfold subDict
                  refine TR.bindM (semE_TR e2 lv) (TR.bindM (m := 0) (n := n3 + n4) (a := ()) (TR.holding fun lv => ?_) TR.pure)
                  rw [if_pos (by rw [hn]; exact k4)]
                  refine TR.bindM (semE_TR e3 lv) (TR.holding fun lv => ?_)
                  obtain ⟨m, m1, m2⟩ := store_ok _ _ _ _ _ e4
                  have : m = n4 := by omega
                  subst this
                  exact TR.bindM (m := 0) (m2 lv) TR.pure
                · cases h
              · cases h
            · cases h
          · cases h
        · cases h
      · cases h
    · cases h
  · cases h
theorem TR.app {l rest : List Stmt} {s s1 s2 : Shared} (h : TR tb p w n₀ ann n W hd c lv pos s (execs l env) .next pos1 s1) (k : TR tb p w n₀ ann m W hd c lv pos1 s1 (execs rest env) .next pos2 s2) : TR tb p w n₀ ann (n + m) W hd c lv pos s (execs (l ++ rest) env) .next pos2 s2 := fun B b1 b2 b3 K H => by
  obtain ⟨j, j1, j2⟩ := h B b1 b2 b3 (fun f => match f with | .next => (execs rest env).wrap K H id lv | f => K f) H
  obtain ⟨i, i1, i2⟩ := k B b1 b2 b3 K H
  refine ⟨j + i, by omega, fun N r q => ?_⟩
  rw [execs_app_wrap, Nat.add_assoc]
  exact j2 _ r (i2 N r q)
theorem TR.cons {st : Stmt} {rest : List Stmt} {s s1 s2 : Shared} (h : TR tb p w n₀ ann n W hd c lv pos s (exec st env) .next pos1 s1) (k : TR tb p w n₀ ann m W hd c lv pos1 s1 (execs rest env) .next pos2 s2) : TR tb p w n₀ ann (n + m) W hd c lv pos s (execs (st :: rest) env) .next pos2 s2 := fun B b1 b2 b3 K H => by
  obtain ⟨j, j1, j2⟩ := h B b1 b2 b3 (fun f => match f with | .next => (execs rest env).wrap K H id lv | f => K f) H
  obtain ⟨i, i1, i2⟩ := k B b1 b2 b3 K H
  refine ⟨j + i, by omega, fun N r q => ?_⟩
  rw [execs_cons_wrap, Nat.add_assoc]
  exact j2 _ r (i2 N r q)
theorem TR.body {b : List Stmt} {s s1 s2 : Shared} (h : TR tb p w n₀ ann n W hd c id pos s (blockStart b env) () pos1 s1) (k : TR tb p w n₀ ann m W hd c id pos1 s1 (execs b env) .next pos2 s2) : TR tb p w n₀ ann (n + m) W hd c id pos s (denote tb (.body b env)) (.done .next) pos2 s2 := fun B b1 b2 b3 K H => by
  obtain ⟨j, j1, j2⟩ := h B b1 b2 b3 (fun _ => ((execs b env).wrap doneF (leaveH env) id id).wrap K H id id) H
  obtain ⟨i, i1, i2⟩ := k B b1 b2 b3 (fun f => K (.done f)) (fun e => (leaveH env e).wrap K H id id)
  refine ⟨j + i, by omega, fun N r q => ?_⟩
  rw [body_wrap, Sem.wrap_wrap, Nat.add_assoc]
  refine j2 _ r ?_
  rw [Sem.wrap_wrap]
  exact i2 N r q
/-- a call, by what its code reaches -/
theorem TR.callD {c' : Code} {g : Bool} {l : List Value} {k : Result → Sem α} {f : Flow} {s s1 s2 : Shared} (h : TR tb p w n₀ ann n ((c, pos) :: W) hd c' id pos s (denote tb c') (.done f) pos1 s1) (q : TR tb p w n₀ ann m W hd c lv pos s1 (k (.ok f)) a pos2 s2) :
    TR tb p w n₀ ann ((n + 1) + m + 1) W hd c lv pos s (.call c' none g l k) a pos2 s2 := fun B b1 b2 b3 K H => by
  obtain ⟨j, j1, j2⟩ := q B b1 b2 b3 K H
  have hW : (Frame.ret (fun r => (k r).wrap K H id lv) none (id g) (lv l) c pos (keptCall c' c (lv l)) :: B).map Frame.where_ = (c, pos) :: W := by rw [← b1]; rfl
  obtain ⟨i, i1, i2⟩ := h (.ret (fun r => (k r).wrap K H id lv) none (id g) (lv l) c pos (keptCall c' c (lv l)) :: B) hW (by simp only [splitAtGen, b2, Option.map_none]) (by rw [← b3]; simp only [topHandled, topHandled.go]) Sem.pure Sem.raise
  refine ⟨i + 1 + j + 1, by omega, fun N r z => ?_⟩
  rw [show i + 1 + j + 1 + N = (i + (j + N + 1)) + 1 by omega]
  have y := i2 (j + N + 1) r (topRun_go (t' := ⟨(k (.ok f)).wrap K H id lv, c, pos, B⟩) rfl rfl rfl (j2 N r z))
  rw [wrap_id] at y
  refine topRun_go (thr (by intro f z; cases z)) rfl ?_ y
  obtain ⟨hp, gens, drawn, toks, os⟩ := s
  rfl
theorem top_ok {i : Nat} (h : topT (denote tb) p w n₀ ann M i s = some (s1, n)) : topRun tb p w n₀ ann (n + 1) s.abs (topStub p) = some s1.abs := by
  unfold topT at h
  split at h
  · rename_i v q1 t1 n1 e1
    split at h
    · rename_i u q2 t2 n2 e2
      split at h
      · rename_i q3 t3 n3 e3
        split at h
        · rename_i st rest el
          split at h
          · rename_i q4 t4 n4 e4
            split at h
            · rename_i q5 t5 n5 e5
              cases h
              have hb : behindTheImports p = (behindTheImports p).take i ++ st :: rest := by rw [← el, List.take_append_drop]
              have body := TR.body (semE_TR e2 id) (by
                have z := TR.app (semE_TR e3 id) (TR.cons (stmt_ok e4 id) (semE_TR e5 id))
                rw [← hb] at z
                exact z)
              have all : TR tb p w n₀ ann (n1 + ((n2 + (n3 + (n4 + n5)) + 1) + 1)) [] none c00 id default s.abs (prep p >>= fun v => (PySem.run (.body (behindTheImports p) (topEnv p v)) >>= fun _ => (ret Value.none : Sem PySem.Fin))) (.done (.ret .none)) q1 s1.abs := by
                refine TR.bindM (semE_TR e1 id) (TR.bindM (m := 0) (n := (n2 + (n3 + (n4 + n5)) + 1) + 1) (a := Flow.next) ?_ TR.pure)
                unfold PySem.run
                exact TR.callD (m := 0) body TR.pure
              obtain ⟨j, j1, j2⟩ := all [] rfl rfl rfl Sem.pure Sem.raise
              have z := j2 1 s1.abs rfl
              rw [wrap_id] at z
              have es : topStub p = ⟨prep p >>= fun v => (PySem.run (.body (behindTheImports p) (topEnv p v)) >>= fun _ => (ret Value.none : Sem PySem.Fin)), c00, default, []⟩ := by
                unfold topStub prep
                simp only [bind_assoc, pure_bind]
                rfl
              rw [es]
              have := topRun_mono (n1 + ((n2 + (n3 + (n4 + n5)) + 1) + 1) - j) _ _ _ _ z
              rw [show j + 1 + (n1 + ((n2 + (n3 + (n4 + n5)) + 1) + 1) - j) = n1 + ((n2 + (n3 + (n4 + n5)) + 1) + 1) + 1 by omega] at this
              exact this
            · cases h
          · cases h
        · cases h
      · cases h
    · cases h
  · cases h
end
/-! ### the head -/
noncomputable def endX (den : Code → Sem PySem.Fin) (M i : Nat) (p : Program) (w : World) (os : OsState) : Option (SharedT × Nat) := match putAll (boot_heap w.params).objs.toList .nil 0 with
  | some (t, n) => frNat n fun n0 => topT den p w n0 (bootAnn w) M i (bootT w os (t, n0))
  | none => none
theorem endX_ok {M i k : Nat} {p : Program} {w : World} {os : OsState} {s : SharedT} (h : endX (denote treeTable) M i p w os = some (s, k)) :
    topRun treeTable p w (boot_heap w.params).objs.size (bootAnn w) (k + 1) ⟨boot_heap w.params, #[], boot_drawn, boot_toks, os⟩ (topStub p) = some s.abs := by
  unfold endX at h
  cases e : putAll (boot_heap w.params).objs.toList .nil 0 with
  | none =>
    rw [e] at h
    cases h
  | some r =>
    obtain ⟨t, n⟩ := r
    rw [e] at h
    have h1 : (frNat n fun n0 => topT (denote treeTable) p w n0 (bootAnn w) M i (bootT w os (t, n0))) = some (s, k) := h
    rw [frNat_eq] at h1
    have q := top_ok h1
    have eh := putAll_heap e
    have en : (boot_heap w.params).objs.size = n := by
      rw [← eh]
      exact absHeap_size t n _
    have eb : (bootT w os (t, n)).abs = ⟨boot_heap w.params, #[], boot_drawn, boot_toks, os⟩ := by
      show (⟨absHeap t n (boot_heap w.params).life, #[], boot_drawn, boot_toks, os⟩ : Shared) = _
      rw [eh]
    rw [eb] at q
    rw [en]
    exact q
/-- the run's equation, where the i-th statement writes a dict of tuples -/
def RunX (r : OpenRow) (q : Program) (H : Hook) (ob : SharedT → H.α) (M N i : Nat) (loose : List PySem.Str) (w : World) : Prop :=
  ∀ os : OsState, (endX (denQ tabQ) M i r.prog w os).map (fun s => (Nat.ble (s.2 + 1) N, looksF r.prog (boot_heap w.params) s.1.abs, seenQ q loose (importedModules r.prog.main.body) (fun s => xlAt q [] s && recOk r.toRowW.records s) s.1.abs, ob s.1)) = some (true, true, openGood q loose, H.val w)
theorem left_X {p q : Program} {loose : List PySem.Str} {Xt : Shared → Bool} {α : Type} {Yf : Shared → α} {Ya : World → α} {N M i : Nat}
    (e : opening p = plainProg p.main.scope.names) (hN : Nat.ble 600 N = true) (f : ∀ s, fenceModules? p s = some s)
    (run : ∀ (w : World) (os : OsState), (endX (denote treeTable) M i p w os).map (fun s => (Nat.ble (s.2 + 1) N, looksF p (boot_heap w.params) s.1.abs, openSeen q loose (importedModules p.main.body) Xt true s.1.abs, Yf s.1.abs)) = some (true, true, openGood q loose, Ya w)) :
    LeftO p q loose Xt Yf Ya N true := fun w => by
  obtain ⟨⟨h, gs, d, k, os⟩, a, a'⟩ := Option.map_eq_some_iff.mp (boot_open e hN f w)
  obtain ⟨rfl, rfl, rfl, rfl⟩ : h = boot_heap w.params ∧ gs = Array.mk [] ∧ d = boot_drawn ∧ k = boot_toks := by simpa using a'
  obtain ⟨⟨s, k⟩, hs, hv⟩ := Option.map_eq_some_iff.mp (run w os)
  obtain ⟨l0, l1, l2, l3⟩ : _ ∧ _ ∧ _ ∧ _ := by simpa only [Prod.mk.injEq] using hv
  have l0 := Nat.le_of_ble_eq_true l0
  have r := topRun_mono (N - (k + 1)) _ _ _ _ (endX_ok hs)
  rw [show k + 1 + (N - (k + 1)) = N by omega] at r
  have l1' : (staticsOk (importedModules p.main.body) (boot_heap w.params) s.abs.heap && namesBound p s.abs.heap && gensDone s.abs && laidKept (boot_heap w.params) s.abs.heap) = true := l1
  have t : topFrom treeTable p w N ⟨boot_heap w.params, Array.mk [], boot_drawn, boot_toks, os⟩ = some s.abs := by
    unfold topFrom
    dsimp only
    rw [boot_ns]
    show (topRun treeTable p w (boot_heap w.params).objs.size (bootAnn w) N ⟨boot_heap w.params, #[], boot_drawn, boot_toks, os⟩ (topStub p)).bind _ = _
    rw [r]
    show (match staticsOk (importedModules p.main.body) (boot_heap w.params) s.abs.heap && namesBound p s.abs.heap && gensDone s.abs && laidKept (boot_heap w.params) s.abs.heap with | true => some s.abs | false => none) = _
    rw [l1']
  unfold openEnds
  rw [a]
  show (topFrom treeTable p w N _).map _ = _
  rw [t]
  exact congrArg some (Prod.ext l2 l3)
theorem endXQ_eq (M i : Nat) (p : Program) (w : World) (os : OsState) : endX (denote treeTable) M i p w os = endX (denQ tabQ) M i p w os := by
  rw [denQ_eq, tabQ_eq]
theorem head_X {r : OpenRow} {q : Program} {H : Hook} {ob : SharedT → H.α} {M N i : Nat} {loose : List PySem.Str} {d : DefRec} {kwd : List (PySem.Str × PySem.Expr)} (ho : ∀ s : SharedT, ob s = H.obs s.abs)
    (e : opening r.prog = plainProg r.prog.main.scope.names) (hN : Nat.ble 600 N = true) (f : ∀ s, fenceModules? r.prog s = some s) (run : ∀ w, RunX r q H ob M N i loose w)
    (hdef : defOf q r.name = some (d, kwd)) (hp : r.prog.theDef r.name = some (d.params, d.body, d.scope)) (hk : kwWritten? d.params.kwonlyargs d.params.kw_defaults = some kwd)
    (hwr : (!r.writes || r.records.isEmpty) = true) (k1 : r.wellSaid = true) (ok : (chainsOk q && opensWell r.prog && (frees r.toRowW && r.within.isEmpty)) = true) (hb : r.prog.bare) (hw : r.toRowW.promised)
    (call : WalkO q loose (XL q []) H.says r.toRowW d kwd fun f vs => PySem.call f vs) : r.Holds := by
  have left : LeftO r.prog q loose (fun s => xlAt q [] s && recOk r.toRowW.records s) H.obs H.val N true :=
    left_X (M := M) (i := i) e hN f fun w os => by
      have z := run w os
      have eo : ob = fun s => H.obs s.abs := funext ho
      rw [eo] at z
      simp only [endXQ_eq, seenQ_eq]
      exact z
  exact holds_open (r := r) (q := q) (loose := loose) (XP := XL q []) (YP := H.says) (d := d) (kwd := kwd) left H.of H.keeps (fun s z => xl_of s (Bool.and_eq_true_iff.mp z).1) XL.keeps hdef hp hk (fun s z => recFacts_of (Bool.and_eq_true_iff.mp z).2) hwr k1 ok hb hw call
end RbH
/-! RA: a machine of plain values over numbered objects; its relation to the heap; the reading of its functions. -/
namespace RA
open PySem PySem.Spec PyProof.Rows L2 Rb
/-! ### values, objects, stores -/
abbrev AK := Sum Int String
def kk : AK → Key
  | .inl i => .inl i
  | .inr x => .inr (Str.ofString x)
inductive A where
  | non | bl (b : Bool) | int (i : Int) | str (x : String) | tup (xs : List A) | ref (n : Nat) | seq (xs : List A) | glo (x : String) | ty (x : String)
  deriving Inhabited
inductive AO where
  | lst (xs : List A) | dK (l : Bool) (kvs : List (AK × A)) | dT (kvs : List (List AK × A)) | ins (C : String) (fs : List (String × A))
abbrev Sto := List AO
abbrev Slo := List (Option A)
theorem str_inj {x y : String} (h : Str.ofString x = Str.ofString y) : x = y := by
  rw [Str.ofString_eq_toList, Str.ofString_eq_toList] at h
  injection h with h
  have h2 : x.toList.map Char.toNat = y.toList.map Char.toNat := by
    have := congrArg Array.toList h
    simpa using this
  have inj : ∀ {a b : List Char}, a.map Char.toNat = b.map Char.toNat → a = b := by
    intro a
    induction a with
    | nil => intro b e; cases b with
      | nil => rfl
      | cons c b => simp at e
    | cons c a ih => intro b e; cases b with
      | nil => simp at e
      | cons d b =>
        simp only [List.map_cons, List.cons.injEq] at e
        have hc : c = d := by
          apply Char.ext
          apply UInt32.toNat_inj.mp
          exact e.1
        rw [hc, ih e.2]
  exact String.ext_iff.mpr (inj h2)
theorem kk_inj {a b : AK} (h : kk a = kk b) : a = b := by
  cases a with
  | inl i => cases b with
    | inl j => simp only [kk] at h; injection h with h; rw [h]
    | inr y => simp [kk] at h
  | inr x => cases b with
    | inl j => simp [kk] at h
    | inr y => simp only [kk] at h; injection h with h; rw [str_inj h]
theorem kks_inj : ∀ {a b : List AK}, a.map kk = b.map kk → a = b
  | [], [], _ => rfl
  | [], _ :: _, e => by simp at e
  | _ :: _, [], e => by simp at e
  | x :: xs, y :: ys, e => by
    simp only [List.map_cons, List.cons.injEq] at e
    rw [kk_inj e.1, kks_inj e.2]
/-! ### how a value stands for one of the heap -/
def FzL (K : PySem.W.Frag) (H : Hp) (p : Addr) (xs : List V) : Prop := (∃ o, H p = some (.frz o (.lst xs))) ∨
  ∃ (o : Obj) (its : Array Value) (n : Nat), K.lookup p = some o ∧ o.cls = .type "list" ∧ o.dict = none ∧ o.data = .seq its n ∧ its.size ≤ sizeLine ∧ Vals xs its.toList
theorem FzL.sq {K : PySem.W.Frag} {H : Hp} {p : Addr} {xs : List V} (h : FzL K H p xs) : SqL K H p xs := by
  rcases h with ⟨o, h⟩ | h
  · exact .inl (.inr ⟨o, h⟩)
  · exact .inr h
section
variable (K : PySem.W.Frag) (φ : List Addr) (H : Hp)
mutual
inductive VR : V → A → Prop
  | non : VR .non .non
  | bl (b : Bool) : VR (.bl b) (.bl b)
  | int (i : Int) : VR (.int i) (.int i)
  | str (x : String) : PyData.strOk (Str.ofString x) = true → VR (.str (Str.ofString x)) (.str x)
  | tup {p : Addr} {xs : List V} {as : List A} : SqT K H p xs → VRs xs as → VR (.ref p) (.tup as)
  | ref {p : Addr} {n : Nat} : φ[n]? = some p → VR (.ref p) (.ref n)
  | seq {p : Addr} {xs : List V} {as : List A} : FzL K H p xs → VRs xs as → VR (.ref p) (.seq as)
  | glo (x : String) : VR (.ref (He.ga K (Str.ofString x))) (.glo x)
  | ty (x : String) : VR (.ty x) (.ty x)
inductive VRs : List V → List A → Prop
  | nil : VRs [] []
  | cons {v : V} {vs : List V} {a : A} {as : List A} : VR v a → VRs vs as → VRs (v :: vs) (a :: as)
end
end
structure KeepV (K : PySem.W.Frag) (H H' : Hp) : Prop where
  t : ∀ p xs, SqT K H p xs → SqT K H' p xs
  l : ∀ p xs, FzL K H p xs → FzL K H' p xs
structure KeepT (K : PySem.W.Frag) (H H' : Hp) : Prop extends KeepV K H H' where
  z : ∀ p o ks, H p = some (.frz o (.dK ks)) → H' p = some (.frz o (.dK ks))
theorem KeepT.refl {K : PySem.W.Frag} {H : Hp} : KeepT K H H := ⟨⟨fun _ _ h => h, fun _ _ h => h⟩, fun _ _ _ h => h⟩
theorem KeepT.trans {K : PySem.W.Frag} {H H1 H2 : Hp} (a : KeepT K H H1) (b : KeepT K H1 H2) : KeepT K H H2 := ⟨⟨fun p xs h => b.t p xs (a.t p xs h), fun p xs h => b.l p xs (a.l p xs h)⟩, fun p o ks h => b.z p o ks (a.z p o ks h)⟩
def mutO : Option HO → Bool
  | none => true
  | some (.lst _) => true
  | some (.dK _) => true
  | some (.dT _) => true
  | some (.ins _ _ _) => true
  | some (.own _) => true
  | _ => false
theorem KeepT.upd {K : PySem.W.Frag} {H : Hp} {q : Addr} {o : HO} (m : mutO (H q) = true) : KeepT K H (L2.upd H q o) := by
  refine ⟨⟨fun p xs h => ?_, fun p xs h => ?_⟩, fun p o' ks h => ?_⟩
  · rcases h with (h | ⟨o', h⟩) | h
    · have n : p ≠ q := fun e => by subst e; rw [h] at m; cases m
      exact .inl (.inl (upd_at n h))
    · have n : p ≠ q := fun e => by subst e; rw [h] at m; cases m
      exact .inl (.inr ⟨o', upd_at n h⟩)
    · exact .inr h
  · rcases h with ⟨o', h⟩ | h
    · have n : p ≠ q := fun e => by subst e; rw [h] at m; cases m
      exact .inl ⟨o', upd_at n h⟩
    · exact .inr h
  · have n : p ≠ q := fun e => by subst e; rw [h] at m; cases m
    exact upd_at n h
theorem KeepT.new {K : PySem.W.Frag} {H : Hp} {q : Addr} {o : HO} (m : H q = none) : KeepT K H (L2.upd H q o) := KeepT.upd (by rw [m]; rfl)
structure Ext (K : PySem.W.Frag) (φ : List Addr) (H : Hp) (φ' : List Addr) (H' : Hp) : Prop where
  pre : φ <+: φ'
  kt : KeepT K H H'
theorem Ext.refl {K : PySem.W.Frag} {φ : List Addr} {H : Hp} : Ext K φ H φ H := ⟨List.prefix_refl _, KeepT.refl⟩
theorem Ext.trans {K : PySem.W.Frag} {φ φ1 φ2 : List Addr} {H H1 H2 : Hp} (a : Ext K φ H φ1 H1) (b : Ext K φ1 H1 φ2 H2) : Ext K φ H φ2 H2 := ⟨a.pre.trans b.pre, a.kt.trans b.kt⟩
theorem pre_get {φ φ' : List Addr} (h : φ <+: φ') {n : Nat} {p : Addr} (e : φ[n]? = some p) : φ'[n]? = some p := by
  obtain ⟨t, rfl⟩ := h
  rw [List.getElem?_append_left (List.getElem?_eq_some_iff.mp e).1]
  exact e
section
variable {K : PySem.W.Frag} {φ φ' : List Addr} {H H' : Hp}
mutual
theorem VR.mono (hp : φ <+: φ') (kv : KeepV K H H') : ∀ (a : A) (v : V), VR K φ H v a → VR K φ' H' v a
  | .non, _, h => by cases h; exact .non
  | .bl _, _, h => by cases h; exact .bl _
  | .int _, _, h => by cases h; exact .int _
  | .str _, _, h => by cases h with | str y k => exact .str _ k
  | .tup as, _, h => by cases h with | tup s r => exact .tup (kv.t _ _ s) (VRs.mono hp kv as _ r)
  | .ref _, _, h => by cases h with | ref e => exact .ref (pre_get hp e)
  | .seq as, _, h => by cases h with | seq s r => exact .seq (kv.l _ _ s) (VRs.mono hp kv as _ r)
  | .glo _, _, h => by cases h; exact .glo _
  | .ty _, _, h => by cases h; exact .ty _
theorem VRs.mono (hp : φ <+: φ') (kv : KeepV K H H') : ∀ (as : List A) (vs : List V), VRs K φ H vs as → VRs K φ' H' vs as
  | [], _, h => by cases h; exact .nil
  | a :: as, _, h => by cases h with | cons r t => exact .cons (VR.mono hp kv a _ r) (VRs.mono hp kv as _ t)
end
theorem VR.up {v : V} {a : A} (h : VR K φ H v a) (x : Ext K φ H φ' H') : VR K φ' H' v a := VR.mono x.pre x.kt.toKeepV a v h
theorem VRs.up {vs : List V} {as : List A} (h : VRs K φ H vs as) (x : Ext K φ H φ' H') : VRs K φ' H' vs as := VRs.mono x.pre x.kt.toKeepV as vs h
theorem VRs.length : ∀ {vs : List V} {as : List A}, VRs K φ H vs as → vs.length = as.length
  | _, _, .nil => rfl
  | _, _, .cons _ t => congrArg Nat.succ (VRs.length t)
theorem VRs.get {as : List A} {a : A} : ∀ {vs : List V} {i : Nat}, VRs K φ H vs as → as[i]? = some a → ∃ v, vs[i]? = some v ∧ VR K φ H v a := by
  induction as with
  | nil => intro vs i _ e; simp at e
  | cons b as ih =>
    intro vs i h e
    cases h with
    | cons r t => cases i with
      | zero => simp at e; subst e; exact ⟨_, rfl, r⟩
      | succ i => simpa using ih t (by simpa using e)
theorem VRs.getV {vs : List V} {v : V} : ∀ {as : List A} {i : Nat}, VRs K φ H vs as → vs[i]? = some v → ∃ a, as[i]? = some a ∧ VR K φ H v a := by
  induction vs with
  | nil => intro as i _ e; simp at e
  | cons b vs ih =>
    intro as i h e
    cases h with
    | cons r t => cases i with
      | zero => simp at e; subst e; exact ⟨_, rfl, r⟩
      | succ i => simpa using ih t (by simpa using e)
theorem VRs.app : ∀ {vs ws : List V} {as bs : List A}, VRs K φ H vs as → VRs K φ H ws bs → VRs K φ H (vs ++ ws) (as ++ bs)
  | _, _, _, _, .nil, s => s
  | _, _, _, _, .cons r t, s => .cons r (VRs.app t s)
theorem VRs.set {v : V} {a : A} (r : VR K φ H v a) : ∀ {vs : List V} {as : List A} (i : Nat), VRs K φ H vs as → VRs K φ H (vs.set i v) (as.set i a)
  | _, _, _, .nil => .nil
  | _, _, 0, .cons _ t => .cons r t
  | _, _, i + 1, .cons q t => .cons q (VRs.set r i t)
theorem VRs.take : ∀ {vs : List V} {as : List A} (n : Nat), VRs K φ H vs as → VRs K φ H (vs.take n) (as.take n)
  | _, _, 0, _ => .nil
  | _, _, _ + 1, .nil => .nil
  | _, _, n + 1, .cons r t => .cons r (VRs.take n t)
theorem VRs.drop : ∀ {vs : List V} {as : List A} (n : Nat), VRs K φ H vs as → VRs K φ H (vs.drop n) (as.drop n)
  | _, _, 0, r => r
  | _, _, _ + 1, .nil => .nil
  | _, _, n + 1, .cons _ t => VRs.drop n t
theorem VRs.flat {vs : List V} {as : List A} (h : VRs K φ H vs as) : ∀ n : Nat, VRs K φ H (List.replicate n vs).flatten (List.replicate n as).flatten
  | 0 => .nil
  | n + 1 => by
    rw [List.replicate_succ, List.replicate_succ, List.flatten_cons, List.flatten_cons]
    exact h.app (VRs.flat h n)
theorem VRs.one {v : V} {a : A} (h : VR K φ H v a) : VRs K φ H [v] [a] := .cons h .nil
end
/-! ### objects -/
section
variable (K : PySem.W.Frag) (φ : List Addr) (H : Hp)
def KR : List (Key × V) → List (AK × A) → Prop := Paired fun p q => p.1 = kk q.1 ∧ VR K φ H p.2 q.2
def TR : List (List Key × V) → List (List AK × A) → Prop := Paired fun p q => p.1 = q.1.map kk ∧ VR K φ H p.2 q.2
def FR : List (Str × V) → List (String × A) → Prop := Paired fun p q => p.1 = Str.ofString q.1 ∧ VR K φ H p.2 q.2
def OR (p : Addr) : AO → Prop
  | .lst as => ∃ xs, H p = some (.lst xs) ∧ VRs K φ H xs as
  | .dK l kvs => ∃ ks, (match l with | true => ∃ o, H p = some (.frz o (.dK ks)) | false => H p = some (.dK ks)) ∧ KR K φ H ks kvs
  | .dT kvs => ∃ ks, H p = some (.dT ks) ∧ TR K φ H ks kvs
  | .ins C fs => ∃ dx gs, H p = some (.ins (He.ga K (Str.ofString C)) dx gs) ∧ Cls K (He.ga K (Str.ofString C)) ∧ (∀ f ∈ fs.map (·.1), NoAttr K (He.ga K (Str.ofString C)) (Str.ofString f)) ∧ gs.length < 999 ∧ FR K φ H gs fs
structure SR (S : Sto) : Prop where
  len : φ.length = S.length
  nd : φ.Nodup
  ob : ∀ (n : Nat) (p : Addr) (o : AO), φ[n]? = some p → S[n]? = some o → OR K φ H p o
end
section
variable {K : PySem.W.Frag} {φ φ' : List Addr} {H H' : Hp} {S : Sto}
theorem OR.there {p : Addr} {o : AO} (h : OR K φ H p o) : H p ≠ none := by
  cases o with
  | lst as => obtain ⟨xs, e, _⟩ := h; rw [e]; simp
  | dK l kvs =>
    obtain ⟨ks, e, _⟩ := h
    cases l with
    | true => obtain ⟨o, e⟩ := e; rw [e]; simp
    | false => have e : H p = some (.dK ks) := e; rw [e]; simp
  | dT kvs => obtain ⟨xs, e, _⟩ := h; rw [e]; simp
  | ins C fs => obtain ⟨dx, gs, e, _⟩ := h; rw [e]; simp
theorem OR.mono {p : Addr} {o : AO} (h : OR K φ H p o) (hp : φ <+: φ') (kv : KeepV K H H') (e : H' p = H p) : OR K φ' H' p o := by
  cases o with
  | lst as => obtain ⟨xs, q, r⟩ := h; exact ⟨xs, e.trans q, VRs.mono hp kv _ _ r⟩
  | dK l kvs =>
    obtain ⟨ks, q, r⟩ := h
    refine ⟨ks, ?_, Paired.mapP r fun a b z => ⟨z.1, VR.mono hp kv _ _ z.2⟩⟩
    cases l with
    | true => obtain ⟨o, q⟩ := q; exact ⟨o, e.trans q⟩
    | false => exact e.trans q
  | dT kvs => obtain ⟨ks, q, r⟩ := h; exact ⟨ks, e.trans q, Paired.mapP r fun a b z => ⟨z.1, VR.mono hp kv _ _ z.2⟩⟩
  | ins C fs => obtain ⟨dx, gs, q, c, n, l, r⟩ := h; exact ⟨dx, gs, e.trans q, c, n, l, Paired.mapP r fun a b z => ⟨z.1, VR.mono hp kv _ _ z.2⟩⟩
theorem OR.up {p : Addr} {o : AO} (h : OR K φ H p o) (x : Ext K φ H φ' H') (e : H' p = H p) : OR K φ' H' p o := h.mono x.pre x.kt.toKeepV e
theorem SR.obj (h : SR K φ H S) {n : Nat} {o : AO} (e : S[n]? = some o) : ∃ p, φ[n]? = some p ∧ OR K φ H p o := by
  have hl : n < φ.length := by rw [h.len]; exact (List.getElem?_eq_some_iff.mp e).1
  exact ⟨φ[n], List.getElem?_eq_getElem hl, h.ob n _ o (List.getElem?_eq_getElem hl) e⟩
theorem SR.at (h : SR K φ H S) {n : Nat} {p : Addr} {o : AO} (hp : φ[n]? = some p) (e : S[n]? = some o) : OR K φ H p o := h.ob n p o hp e
theorem SR.free (h : SR K φ H S) {p : Addr} (hp : H p = none) : p ∉ φ := fun m => by
  obtain ⟨n, hn, e⟩ := List.getElem_of_mem m
  have hs : n < S.length := by rw [← h.len]; exact hn
  exact (h.ob n p S[n] (by rw [← e]; exact List.getElem?_eq_getElem hn) (List.getElem?_eq_getElem hs)).there hp
/-- a heap that has grown beside the objects -/
theorem SR.same (h : SR K φ H S) (kt : KeepT K H H') (e : ∀ p ∈ φ, H' p = H p) : SR K φ H' S :=
  ⟨h.len, h.nd, fun n p o hp ho => (h.ob n p o hp ho).up ⟨List.prefix_refl _, kt⟩ (e p (List.mem_of_getElem? hp))⟩
theorem SR.new (h : SR K φ H S) {q : Addr} {o : HO} (hq : H q = none) : SR K φ (upd H q o) S :=
  h.same (KeepT.new hq) fun p m => upd_ne fun e => h.free hq (e ▸ m)
/-- a new object -/
theorem SR.push (h : SR K φ H S) {q : Addr} {ho : HO} {o : AO} (hq : H q = none) (k : OR K (φ ++ [q]) (upd H q ho) q o) : SR K (φ ++ [q]) (upd H q ho) (S ++ [o]) := by
  refine ⟨by simp [h.len], List.nodup_append.mpr ⟨h.nd, by simp, fun a ma b mb e => ?_⟩, fun n p o' hp hs => ?_⟩
  · have : b = q := by simpa using mb
    exact h.free hq (by rw [← this, ← e]; exact ma)
  · by_cases c : n < φ.length
    · rw [List.getElem?_append_left c] at hp
      rw [List.getElem?_append_left (by rw [← h.len]; exact c)] at hs
      exact (h.ob n p o' hp hs).up ⟨List.prefix_append _ _, KeepT.new hq⟩ (upd_ne fun e => h.free hq (e ▸ List.mem_of_getElem? hp))
    · have hn : n = φ.length := by
        have := (List.getElem?_eq_some_iff.mp hp).1
        simp at this
        omega
      subst hn
      rw [List.getElem?_append_right (Nat.le_refl _)] at hp
      rw [h.len, List.getElem?_append_right (Nat.le_refl _)] at hs
      simp at hp hs
      subst hp hs
      exact k
theorem Ext.push {q : Addr} {ho : HO} (hq : H q = none) : Ext K φ H (φ ++ [q]) (upd H q ho) := ⟨List.prefix_append _ _, KeepT.new hq⟩
theorem Ext.new {q : Addr} {ho : HO} (hq : H q = none) : Ext K φ H φ (upd H q ho) := ⟨List.prefix_refl _, KeepT.new hq⟩
/-- an object changed, whatever it was -/
theorem SR.set0 (h : SR K φ H S) {n : Nat} {p : Addr} {ho : HO} {o : AO} (hp : φ[n]? = some p) (hn : n < S.length) (kv : KeepV K H (upd H p ho)) (k : OR K φ (upd H p ho) p o) : SR K φ (upd H p ho) (S.set n o) := by
  refine ⟨by simp [h.len], h.nd, fun m q o' hq hs => ?_⟩
  by_cases c : m = n
  · subst c
    rw [hp] at hq
    injection hq with hq
    subst hq
    rw [List.getElem?_set_self hn] at hs
    injection hs with hs
    subst hs
    exact k
  · rw [List.getElem?_set_ne (Ne.symm c)] at hs
    refine (h.ob m q o' hq hs).mono (List.prefix_refl _) kv (upd_ne fun e => ?_)
    subst e
    exact c ((List.getElem?_inj (List.getElem?_eq_some_iff.mp hq).1 h.nd).mp (hq.trans hp.symm))
/-- an object changed -/
theorem SR.set (h : SR K φ H S) {n : Nat} {p : Addr} {ho : HO} {o : AO} (hp : φ[n]? = some p) (hn : n < S.length) (m : mutO (H p) = true) (k : Ext K φ H φ (upd H p ho) → OR K φ (upd H p ho) p o) : SR K φ (upd H p ho) (S.set n o) := by
  have x : Ext K φ H φ (upd H p ho) := ⟨List.prefix_refl _, KeepT.upd m⟩
  exact h.set0 hp hn x.kt.toKeepV (k x)
theorem Ext.set {p : Addr} {ho : HO} (m : mutO (H p) = true) : Ext K φ H φ (upd H p ho) := ⟨List.prefix_refl _, KeepT.upd m⟩
end
/-! ### slots -/
def oR (K : PySem.W.Frag) (φ : List Addr) (H : Hp) : Option V → Option A → Prop
  | some v, some a => VR K φ H v a
  | none, none => True
  | _, _ => False
def SL (K : PySem.W.Frag) (φ : List Addr) (H : Hp) : L2.St → Slo → Prop := Paired (oR K φ H)
section
variable {K : PySem.W.Frag} {φ φ' : List Addr} {H H' : Hp} {S : Sto} {σ : L2.St} {as : Slo}
theorem SL.mono (h : SL K φ H σ as) (hp : φ <+: φ') (kv : KeepV K H H') : SL K φ' H' σ as := Paired.mapP h fun a b z => match a, b, z with
  | some _, some _, z => VR.mono hp kv _ _ z
  | none, none, _ => trivial
theorem SL.up (h : SL K φ H σ as) (x : Ext K φ H φ' H') : SL K φ' H' σ as := h.mono x.pre x.kt.toKeepV
theorem SL.get {a : A} : ∀ {σ : L2.St} {as : Slo} {i : Nat}, SL K φ H σ as → as[i]? = some (some a) → ∃ v, σ[i]? = some (some v) ∧ VR K φ H v a := by
  intro σ as i h
  unfold SL at h
  induction h generalizing i with
  | nil => intro e; simp at e
  | @cons u b _ _ r t ih =>
    intro e
    cases i with
    | zero =>
      simp at e
      subst e
      cases u with
      | some v => exact ⟨v, rfl, r⟩
      | none => exact r.elim
    | succ i => simpa using ih (by simpa using e)
theorem paired_set {α β : Type} {F : α → β → Prop} {a : α} {b : β} (r : F a b) : ∀ {l : List α} {m : List β} (i : Nat), Paired F l m → Paired F (l.set i a) (m.set i b)
  | _, _, _, .nil => .nil
  | _, _, 0, .cons _ t => .cons r t
  | _, _, i + 1, .cons q t => .cons q (paired_set r i t)
theorem SL.set {v : V} {a : A} (h : SL K φ H σ as) (r : VR K φ H v a) (i : Nat) : SL K φ H (σ.set i (some v)) (as.set i (some a)) := paired_set (F := oR K φ H) (a := some v) (b := some a) r i h
theorem SL.unset (h : SL K φ H σ as) (i : Nat) : SL K φ H (σ.set i none) (as.set i none) := paired_set (F := oR K φ H) (a := none) (b := none) trivial i h
def wipA (as : Slo) : List Nat → Slo
  | [] => as
  | v :: vs => (wipA as vs).set v none
theorem SL.wipe (h : SL K φ H σ as) : ∀ vs : List Nat, SL K φ H (wipe σ vs) (wipA as vs)
  | [] => h
  | v :: vs => (SL.wipe h vs).unset v
theorem SL.start : ∀ {vs : List V} {bs : List A}, VRs K φ H vs bs → ∀ n : Nat, SL K φ H (vs.map some ++ List.replicate n none) (bs.map some ++ List.replicate n none)
  | _, _, .nil, n => by
    induction n with
    | zero => exact .nil
    | succ n ih => exact .cons trivial ih
  | _, _, .cons r t, n => .cons r (SL.start t n)
end
/-! ### results -/
inductive R (α : Type) where
  | ok (a : α) (s : Sto) | exc (s : Sto) | bad
def R.bnd {α β : Type} (r : R α) (f : α → Sto → R β) : R β := match r with
  | .ok a s => f a s
  | .exc s => .exc s
  | .bad => .bad
/-- what raises is not followed -/
def R.calm {α : Type} (r : R α) : R α := match r with
  | .ok a s => .ok a s
  | _ => .bad
def Post {α β : Type} (Rel : List Addr → Hp → β → α → Prop) (K : PySem.W.Frag) (φ : List Addr) (H : Hp) (r : R α) (Q : β → Hp → Prop) (W : Hp → Prop) : Prop := match r with
  | .ok a S' => ∀ φ' H' v, Ext K φ H φ' H' → SR K φ' H' S' → Rel φ' H' v a → Q v H'
  | .exc S' => ∀ φ' H', Ext K φ H φ' H' → SR K φ' H' S' → W H'
  | .bad => False
abbrev eR {β : Type} : List Addr → Hp → β → β → Prop := fun _ _ x y => x = y
theorem Post.up {α β : Type} {Rel : List Addr → Hp → β → α → Prop} {K : PySem.W.Frag} {φ φ1 : List Addr} {H H1 : Hp} {r : R α} {Q : β → Hp → Prop} {W : Hp → Prop} (p : Post Rel K φ H r Q W) (x : Ext K φ H φ1 H1) : Post Rel K φ1 H1 r Q W := by
  cases r with
  | ok a S => exact fun φ' H' v e => p φ' H' v (x.trans e)
  | exc S => exact fun φ' H' e => p φ' H' (x.trans e)
  | bad => exact p
abbrev NV (K : PySem.W.Frag) : Value := .ref (He.ga K "NotValid")
def rdX {α β : Type} (K : PySem.W.Frag) (Rel : List Addr → Hp → β → α → Prop) (W : WX) (f : Slo → Sto → R α) : L2.St → Hp → (β → Hp → Prop) → Prop :=
  fun σ H Q => ∃ φ as S, SR K φ H S ∧ SL K φ H σ as ∧ Post Rel K φ H (f as S) Q (fun H' => W (NV K) none σ H')
abbrev AE := Slo → Sto → R A
abbrev AT := Slo → Sto → R Bool
abbrev AA := Slo → Sto → R (List A)
abbrev rdE (K : PySem.W.Frag) (W : WX) (f : AE) : TE := rdX K (VR K) W f
abbrev rdT (K : PySem.W.Frag) (W : WX) (f : AT) : TT := rdX K eR W f
abbrev rdA (K : PySem.W.Frag) (W : WX) (f : AA) : TA := rdX K (VRs K) W f
section
variable {K : PySem.W.Frag} {φ : List Addr} {H : Hp} {S : Sto} {σ : L2.St} {as : Slo} {W : WX}
theorem rd_step {α α2 β β2 : Type} {Rel : List Addr → Hp → β → α → Prop} {Rel2 : List Addr → Hp → β2 → α2 → Prop} {fa : Slo → Sto → R α} {g : α → Sto → R α2} {Q : β2 → Hp → Prop} {Q1 : β → Hp → Prop}
    (sr : SR K φ H S) (sl : SL K φ H σ as) (p : Post Rel2 K φ H ((fa as S).bnd g) Q (fun H' => W (NV K) none σ H'))
    (k : ∀ φ' x a S1 H1, Ext K φ H φ' H1 → SR K φ' H1 S1 → SL K φ' H1 σ as → Rel φ' H1 x a → Post Rel2 K φ' H1 (g a S1) Q (fun H' => W (NV K) none σ H') → Q1 x H1) : rdX K Rel W fa σ H Q1 := by
  refine ⟨φ, as, S, sr, sl, ?_⟩
  cases e : fa as S with
  | ok a S1 =>
    rw [e] at p
    exact fun φ' H' v x sr' r => k φ' v a S1 H' x sr' (sl.up x) r (Post.up p x)
  | exc S1 => rw [e] at p; exact p
  | bad => rw [e] at p; exact p
/-- the last part -/
theorem rd_last {α β : Type} {Rel : List Addr → Hp → β → α → Prop} {fa : Slo → Sto → R α} {Q : β → Hp → Prop} (sr : SR K φ H S) (sl : SL K φ H σ as) (p : Post Rel K φ H (fa as S) Q (fun H' => W (NV K) none σ H')) : rdX K Rel W fa σ H Q := ⟨φ, as, S, sr, sl, p⟩
theorem Post.ok {α β : Type} {Rel : List Addr → Hp → β → α → Prop} {a : α} {Q : β → Hp → Prop} {W : Hp → Prop} {v : β} (p : Post Rel K φ H (.ok a S) Q W) (sr : SR K φ H S) (r : Rel φ H v a) : Q v H := p φ H v Ext.refl sr r
theorem Post.okX {α β : Type} {Rel : List Addr → Hp → β → α → Prop} {a : α} {Q : β → Hp → Prop} {W : Hp → Prop} {v : β} {φ' : List Addr} {H' : Hp} {S' : Sto} (p : Post Rel K φ H (.ok a S') Q W) (x : Ext K φ H φ' H') (sr : SR K φ' H' S') (r : Rel φ' H' v a) : Q v H' := p φ' H' v x sr r
end
section
variable {X : Cx}
theorem PE_mono {e : Expr} {t t' : TE} (h : PE X e t) (k : ∀ σ H Q, t' σ H Q → t σ H Q) : PE X e t' := ⟨fun pins s σ H Q I q => h.run pins s σ H Q I (k σ H Q q)⟩
theorem PT_mono {e : Expr} {t t' : TT} (h : PT X e t) (k : ∀ σ H Q, t' σ H Q → t σ H Q) : PT X e t' := ⟨fun pins s σ H Q I q => h.run pins s σ H Q I (k σ H Q q)⟩
theorem PW_mono {e : Expr} {t t' : TT} (h : PW X e t) (k : ∀ σ H Q, t' σ H Q → t σ H Q) : PW X e t' := ⟨fun w pins s σ H Q I q => h.run w pins s σ H Q I (k σ H Q q)⟩
theorem PA_mono {e : List Expr} {t t' : TA} (h : PA X e t) (k : ∀ σ H Q, t' σ H Q → t σ H Q) : PA X e t' := ⟨fun pos pins s σ H Q I q => h.run pos pins s σ H Q I (k σ H Q q)⟩
theorem PS_mono {e : Stmt} {t t' : TS} (h : PS X e t) (k : ∀ D σ H, t' D σ H → t D σ H) : PS X e t' := ⟨fun pins s σ H D I q => h.run pins s σ H D I (k D σ H q)⟩
theorem PSs_mono {e : List Stmt} {t t' : TS} (h : PSs X e t) (k : ∀ D σ H, t' D σ H → t D σ H) : PSs X e t' := ⟨fun pins s σ H D I q => h.run pins s σ H D I (k D σ H q)⟩
theorem PG_mono {e : Expr} {t t' : TG} (h : PG X e t) (k : ∀ v σ H Q, t' v σ H Q → t v σ H Q) : PG X e t' := ⟨fun pins s σ H v u Q I r q => h.run pins s σ H v u Q I r (k v σ H Q q)⟩
theorem PI_mono {tg e : Expr} {t t' : TI} (h : PI X tg e t) (k : ∀ σ H R, t' σ H R → t σ H R) : PI X tg e t' := ⟨fun pins s σ H R I q => h.run pins s σ H R I (k σ H R q)⟩
end
end RA
/-! RA: expressions: what they compute by values, and that the heap's readings follow. -/
namespace RA
open PySem PySem.Spec PyProof.Rows L2 Rb
abbrev cap : Nat := 1000000
theorem cap_size {n : Nat} (h : n ≤ cap) : n ≤ sizeLine := by rw [sizeLine_eq]; have : n ≤ 1000000 := h; omega
theorem cap_lt {n : Nat} (h : n < cap) : n < sizeLine := by rw [sizeLine_eq]; have : n < 1000000 := h; omega
/-! ### data -/
mutual
def A.dat (rf : Nat → Option PyData) : A → Option PyData
  | .non => some .none
  | .bl b => some (.bool b)
  | .int i => some (.int i)
  | .str x => some (.str (Str.ofString x))
  | .tup as => match A.dats rf as with
    | some ds => some (.tuple ds)
    | none => none
  | .seq as => match A.dats rf as with
    | some ds => some (.list ds)
    | none => none
  | .ref n => rf n
  | .glo _ => none
  | .ty _ => none
def A.dats (rf : Nat → Option PyData) : List A → Option (List PyData)
  | [] => some []
  | a :: as => match A.dat rf a, A.dats rf as with
    | some d, some ds => some (d :: ds)
    | _, _ => none
end
def refD (S : Sto) : Nat → Nat → Option PyData
  | 0, _ => none
  | k + 1, n => match S[n]? with
    | some (.lst as) => match A.dats (refD S k) as with
      | some ds => some (.list ds)
      | none => none
    | _ => none
/-- what a value is as data; lists within lists to depth 4 -/
def toD (S : Sto) (a : A) : Option PyData := A.dat (refD S 4) a
section
variable {K : PySem.W.Frag} {φ : List Addr} {H : Hp} {S : Sto}
mutual
theorem dat_dp {rf : Nat → Option PyData} (h : ∀ n p d, φ[n]? = some p → rf n = some d → Dp K H (.ref p) d ∧ d.canLay0 = true) : ∀ (a : A) (v : V) (d : PyData), VR K φ H v a → A.dat rf a = some d → Dp K H v d ∧ d.canLay0 = true
  | .non, _, _, r, e => by cases r; simp only [A.dat, Option.some.injEq] at e; subst e; exact ⟨.non, by simp [PyData.canLay0]⟩
  | .bl _, _, _, r, e => by cases r; simp only [A.dat, Option.some.injEq] at e; subst e; exact ⟨.bl _, by simp [PyData.canLay0]⟩
  | .int _, _, _, r, e => by cases r; simp only [A.dat, Option.some.injEq] at e; subst e; exact ⟨.int _, by simp [PyData.canLay0]⟩
  | .str _, _, _, r, e => by cases r with | str y k => simp only [A.dat, Option.some.injEq] at e; subst e; exact ⟨.str _, by simpa [PyData.canLay0] using k⟩
  | .tup as, _, _, r, e => by
    cases r with
    | tup s r =>
      simp only [A.dat] at e
      cases q : A.dats rf as with
      | none => rw [q] at e; cases e
      | some ds =>
        rw [q] at e
        simp only [Option.some.injEq] at e
        subst e
        obtain ⟨a, b⟩ := dats_dp h as _ ds r q
        exact ⟨.tup s a, by simpa [PyData.canLay0] using b⟩
  | .seq as, _, _, r, e => by
    cases r with
    | seq s r =>
      simp only [A.dat] at e
      cases q : A.dats rf as with
      | none => rw [q] at e; cases e
      | some ds =>
        rw [q] at e
        simp only [Option.some.injEq] at e
        subst e
        obtain ⟨a, b⟩ := dats_dp h as _ ds r q
        exact ⟨.lst s.sq a, by simpa [PyData.canLay0] using b⟩
  | .ref n, _, d, r, e => by cases r with | ref k => exact h n _ d k e
  | .glo _, _, _, _, e => by simp [A.dat] at e
  | .ty _, _, _, _, e => by simp [A.dat] at e
theorem dats_dp {rf : Nat → Option PyData} (h : ∀ n p d, φ[n]? = some p → rf n = some d → Dp K H (.ref p) d ∧ d.canLay0 = true) : ∀ (as : List A) (vs : List V) (ds : List PyData), VRs K φ H vs as → A.dats rf as = some ds → DpAll K H vs ds ∧ PyData.canLayAll0 ds = true
  | [], _, _, r, e => by cases r; simp only [A.dats, Option.some.injEq] at e; subst e; exact ⟨.nil, by simp [PyData.canLayAll0]⟩
  | a :: as, _, _, r, e => by
    cases r with
    | cons r t =>
      simp only [A.dats] at e
      cases q : A.dat rf a with
      | none => rw [q] at e; cases e
      | some d =>
        rw [q] at e
        cases q2 : A.dats rf as with
        | none => rw [q2] at e; cases e
        | some ds =>
          rw [q2] at e
          simp only [Option.some.injEq] at e
          subst e
          obtain ⟨a1, b1⟩ := dat_dp h a _ d r q
          obtain ⟨a2, b2⟩ := dats_dp h as _ ds t q2
          exact ⟨.cons a1 a2, by simp [PyData.canLayAll0, b1, b2]⟩
end
theorem refD_dp (sr : SR K φ H S) : ∀ (k n : Nat) (p : Addr) (d : PyData), φ[n]? = some p → refD S k n = some d → Dp K H (.ref p) d ∧ d.canLay0 = true
  | 0, _, _, _, _, e => by cases e
  | k + 1, n, p, d, hp, e => by
    unfold refD at e
    cases q : S[n]? with
    | none => rw [q] at e; cases e
    | some o =>
      rw [q] at e
      cases o with
      | lst as =>
        simp only at e
        cases q2 : A.dats (refD S k) as with
        | none => rw [q2] at e; cases e
        | some ds =>
          rw [q2] at e
          simp only [Option.some.injEq] at e
          subst e
          obtain ⟨xs, ex, rx⟩ := sr.ob n p _ hp q
          obtain ⟨a, b⟩ := dats_dp (fun n p d => refD_dp sr k n p d) as xs ds rx q2
          exact ⟨.lst (.inl (.inl ex)) a, by simpa [PyData.canLay0] using b⟩
      | _ => cases e
theorem toD_dp (sr : SR K φ H S) {v : V} {a : A} {d : PyData} (r : VR K φ H v a) (e : toD S a = some d) : Dp K H v d ∧ d.canLay0 = true := dat_dp (fun n p d => refD_dp sr 4 n p d) a v d r e
end
/-! ### names, constants -/
section
variable {X : Cx} {W : WX} {e a b c : Expr}
def xVar (i : Nat) : AE := fun as S => match as[i]? with
  | some (some a) => .ok a S
  | _ => .bad
theorem d_var {i : Nat} (h : PE X e (tVar i)) : PE X e (rdE X.K W (xVar i)) := PE_mono h fun σ H Q ⟨φ, as, S, sr, sl, p⟩ => by
  unfold xVar at p
  cases q : as[i]? with
  | none => rw [q] at p; exact p.elim
  | some o =>
    cases o with
    | none => rw [q] at p; exact p.elim
    | some a =>
      rw [q] at p
      obtain ⟨v, ev, r⟩ := sl.get q
      exact ⟨v, ev, p.ok sr r⟩
def xC (a : A) : AE := fun _ S => .ok a S
theorem d_c {v : V} {a : A} (h : PE X e (tC v)) (r : ∀ φ H, VR X.K φ H v a) : PE X e (rdE X.K W (xC a)) := PE_mono h fun σ H Q ⟨φ, as, S, sr, sl, p⟩ => p.ok sr (r φ H)
theorem d_int {i : Int} (h : PE X e (tC (.int i))) : PE X e (rdE X.K W (xC (.int i))) := d_c h fun _ _ => .int i
theorem d_bl {i : Bool} (h : PE X e (tC (.bl i))) : PE X e (rdE X.K W (xC (.bl i))) := d_c h fun _ _ => .bl i
theorem d_non (h : PE X e (tC .non)) : PE X e (rdE X.K W (xC .non)) := d_c h fun _ _ => .non
theorem d_str (x : String) (h : PE X e (tC (.str (Str.ofString x)))) (k : PyData.strOk (Str.ofString x) = true) : PE X e (rdE X.K W (xC (.str x))) := d_c h fun _ _ => .str x k
theorem d_ty {x : String} (h : PE X e (tC (.ty x))) : PE X e (rdE X.K W (xC (.ty x))) := d_c h fun _ _ => .ty x
theorem d_glo (x : String) (h : PE X e (tC (.ref (He.ga X.K (Str.ofString x))))) : PE X e (rdE X.K W (xC (.glo x))) := d_c h fun _ _ => .glo x
/-! ### operators -/
def OpA (K : PySem.W.Frag) (r : R2) (op : A → A → Sto → R A) : Prop := ∀ (φ : List Addr) (H : Hp) (S : Sto) (x y : V) (a b : A) (Q : VK) (W : Hp → Prop), SR K φ H S → VR K φ H x a → VR K φ H y b → Post (VR K) K φ H (op a b S) Q W → r x y H Q
def xOp (op : A → A → Sto → R A) (fa fb : AE) : AE := fun as S => (fa as S).bnd fun a S1 => (fb as S1).bnd fun b S2 => op a b S2
theorem rd_op {K : PySem.W.Frag} {r : R2} {op : A → A → Sto → R A} {fa fb : AE} {σ : L2.St} {H : Hp} {Q : VK} (k : OpA K r op) (h : rdE K W (xOp op fa fb) σ H Q) : tOp r (rdE K W fa) (rdE K W fb) σ H Q := by
  obtain ⟨φ, as, S, sr, sl, p⟩ := h
  refine rd_step sr sl p fun φ1 x a S1 H1 x1 sr1 sl1 ra p1 => ?_
  refine rd_step sr1 sl1 p1 fun φ2 y b S2 H2 x2 sr2 sl2 rb p2 => ?_
  exact k φ2 H2 S2 x y a b Q _ sr2 (VR.up ra x2) rb p2
theorem d_op {op : Operator} {r : R2} {o : A → A → Sto → R A} {fa fb : AE} {pos : Pos} (ho : OpR X (binaryOp op) r) (k : OpA X.K r o) (ha : PE X a (rdE X.K W fa)) (hb : PE X b (rdE X.K W fb)) : PE X (.BinOp a op b pos) (rdE X.K W (xOp o fa fb)) :=
  PE_mono (pe_op ho ha hb) fun _ _ _ h => rd_op k h
theorem d_cmp {op : CmpOp} {r : R2} {o : A → A → Sto → R A} {fa fb : AE} {pos : Pos} (ho : OpR X (compareOp op) r) (k : OpA X.K r o) (ha : PE X a (rdE X.K W fa)) (hb : PE X b (rdE X.K W fb)) (hm : behindInMarks op b = false) : PE X (.Compare a [op] [b] pos) (rdE X.K W (xOp o fa fb)) :=
  PE_mono (pe_cmpR ho ha hb hm) fun _ _ _ h => rd_op k h
def aB (a : A) (S : Sto) : R Bool := match a with
  | .bl b => .ok b S
  | _ => .bad
def xT (fe : AE) : AT := fun as S => (fe as S).bnd aB
theorem post_bl {K : PySem.W.Frag} {φ : List Addr} {H : Hp} {S : Sto} {a : A} {x : V} {Q : Bool → Hp → Prop} {W : Hp → Prop} (sr : SR K φ H S) (r : VR K φ H x a) (p : Post eR K φ H (aB a S) Q W) : ∃ k, x = .bl k ∧ Q k H := by
  cases r with
  | bl b => exact ⟨b, rfl, p.ok sr rfl⟩
  | _ => exact p.elim
theorem rd_test {K : PySem.W.Frag} {fe : AE} {σ : L2.St} {H : Hp} {Q : Bool → Hp → Prop} (h : rdT K W (xT fe) σ H Q) : rdE K W fe σ H (fun x H' => ∃ k, x = .bl k ∧ Q k H') := by
  obtain ⟨φ, as, S, sr, sl, p⟩ := h
  exact rd_step sr sl p fun φ1 x a S1 H1 x1 sr1 sl1 ra p1 => post_bl sr1 ra p1
theorem d_tcmp {op : CmpOp} {r : R2} {o : A → A → Sto → R A} {fa fb : AE} {pos : Pos} (ho : OpR X (compareOp op) r) (k : OpA X.K r o) (ha : PE X a (rdE X.K W fa)) (hb : PE X b (rdE X.K W fb)) (hm : behindInMarks op b = false) : PT X (.Compare a [op] [b] pos) (rdT X.K W (xT (xOp o fa fb))) :=
  PT_mono (pt_cmpR ho ha hb hm) fun _ _ _ h => rd_op k (rd_test h)
def aChain (o' : A → A → Sto → R A) (fc : AE) (as : Slo) (b z : A) (S : Sto) : R A := match z with
  | .bl true => (fc as S).bnd fun c S4 => o' b c S4
  | .bl false => .ok (.bl false) S
  | _ => .bad
def xChain (o o' : A → A → Sto → R A) (fa fb fc : AE) : AE := fun as S => (fa as S).bnd fun a S1 => (fb as S1).bnd fun b S2 => (o a b S2).bnd fun z S3 => aChain o' fc as b z S3
end
end RA
/-! RA: operators on values. -/
namespace RA
open PySem PySem.Spec PyProof.Rows L2 Rb
section
variable {K : PySem.W.Frag} {φ : List Addr} {H : Hp} {S : Sto} {Q : VK} {W : Hp → Prop} {xs : List V} {as : List A}
theorem Post.bnd {α α2 β β2 : Type} {Rel : List Addr → Hp → β → α → Prop} {Rel2 : List Addr → Hp → β2 → α2 → Prop} {r : R α} {g : α → Sto → R α2} {Q : β2 → Hp → Prop} {Q1 : β → Hp → Prop}
    (p : Post Rel2 K φ H (r.bnd g) Q W) (k : ∀ φ' H' v a S', r = .ok a S' → Ext K φ H φ' H' → SR K φ' H' S' → Rel φ' H' v a → Post Rel2 K φ' H' (g a S') Q W → Q1 v H') : Post Rel K φ H r Q1 W := by
  cases r with
  | ok a S' => exact fun φ' H' v x sr rl => k φ' H' v a S' rfl x sr rl (Post.up p x)
  | exc S' => exact p
  | bad => exact p
theorem at_new (sr : SR K φ H S) (q : Addr) : (φ ++ [q])[S.length]? = some q := by
  rw [← sr.len]
  simp
theorem new_lst (sr : SR K φ H S) (r : VRs K φ H xs as) (p : Post (VR K) K φ H (.ok (.ref S.length) (S ++ [.lst as])) Q W) (q : Addr) (hq : H q = none) : Q (.ref q) (upd H q (.lst xs)) :=
  p.okX (Ext.push hq) (sr.push hq ⟨xs, upd_same, r.up (Ext.push hq)⟩) (.ref (at_new sr q))
theorem new_tup (sr : SR K φ H S) (r : VRs K φ H xs as) (p : Post (VR K) K φ H (.ok (.tup as) S) Q W) (q : Addr) (hq : H q = none) : Q (.ref q) (upd H q (.tup xs)) :=
  p.okX (Ext.new hq) (sr.new hq) (.tup (sqT upd_same) (r.up (Ext.new hq)))
theorem VR.tupOf {v : V} (h : VR K φ H v (.tup as)) : ∃ p xs, v = .ref p ∧ SqT K H p xs ∧ VRs K φ H xs as := by
  cases h with
  | tup s r => exact ⟨_, _, rfl, s, r⟩
theorem VR.seqOf {v : V} (h : VR K φ H v (.seq as)) : ∃ p xs, v = .ref p ∧ SqL K H p xs ∧ VRs K φ H xs as := by
  cases h with
  | seq s r => exact ⟨_, _, rfl, s.sq, r⟩
theorem VR.refOf {v : V} {n : Nat} (h : VR K φ H v (.ref n)) : ∃ p, v = .ref p ∧ φ[n]? = some p := by
  cases h with
  | ref s => exact ⟨_, rfl, s⟩
theorem VR.intOf {v : V} {n : Int} (h : VR K φ H v (.int n)) : v = .int n := by
  cases h
  rfl
theorem VR.blOf {v : V} {n : Bool} (h : VR K φ H v (.bl n)) : v = .bl n := by
  cases h
  rfl
/-! ### + - * // % ** -/
def aAdd (a b : A) (S : Sto) : R A := match a, b with
  | .int i, .int j => .ok (.int (i + j)) S
  | .tup xs, .tup ys => if xs.length + ys.length ≤ cap then .ok (.tup (xs ++ ys)) S else .bad
  | .ref m, .ref n => match S[m]?, S[n]? with
    | some (.lst xs), some (.lst ys) => if xs.length + ys.length ≤ cap then .ok (.ref S.length) (S ++ [.lst (xs ++ ys)]) else .bad
    | _, _ => .bad
  | _, _ => .bad
theorem k_add : OpA K (rAddA K) aAdd := by
  intro φ H S x y a b Q W sr ra rb p
  unfold aAdd at p
  split at p
  · cases ra; cases rb
    exact .inl ⟨_, _, rfl, rfl, p.ok sr (.int _)⟩
  · obtain ⟨q1, xs, rfl, s1, r1⟩ := ra.tupOf
    obtain ⟨q2, ys, rfl, s2, r2⟩ := rb.tupOf
    split at p
    · rename_i c
      rw [← r1.length, ← r2.length] at c
      refine .inr (.inr ⟨q1, q2, xs, ys, rfl, rfl, s1, s2, cap_size c, fun e => ?_, fun _ e => ?_, fun _ _ => new_tup sr (r1.app r2) p⟩)
      · subst e
        cases r1
        exact p.ok sr (.tup s2 r2)
      · subst e
        cases r2
        exact p.ok sr (.tup s1 (by rw [List.append_nil]; exact r1))
    · exact p.elim
  · obtain ⟨q1, rfl, f1⟩ := ra.refOf
    obtain ⟨q2, rfl, f2⟩ := rb.refOf
    split at p
    · rename_i e1 e2
      obtain ⟨xs, h1, r1⟩ := sr.at f1 e1
      obtain ⟨ys, h2, r2⟩ := sr.at f2 e2
      split at p
      · rename_i c
        rw [← r1.length, ← r2.length] at c
        exact .inr (.inl ⟨q1, q2, xs, ys, rfl, rfl, h1, h2, cap_size c, new_lst sr (r1.app r2) p⟩)
      · exact p.elim
    · exact p.elim
  · exact p.elim
def aInt2 (g : Int → Int → A) (a b : A) (S : Sto) : R A := match a, b with
  | .int i, .int j => .ok (g i j) S
  | _, _ => .bad
def aInt2c (c : Int → Int → Bool) (g : Int → Int → A) (a b : A) (S : Sto) : R A := match a, b with
  | .int i, .int j => if c i j = true then .ok (g i j) S else .bad
  | _, _ => .bad
theorem k_int2 {g : Int → Int → A} {h : Int → Int → V} (e : ∀ i j φ H, VR K φ H (h i j) (g i j)) : OpA K (rI0 h) (aInt2 g) := by
  intro φ H S x y a b Q W sr ra rb p
  unfold aInt2 at p
  split at p
  · cases ra; cases rb
    exact ⟨_, _, rfl, rfl, p.ok sr (e _ _ _ _)⟩
  · exact p.elim
theorem k_int2c {c : Int → Int → Bool} {C : Int → Int → Prop} {g : Int → Int → A} {h : Int → Int → V} (e : ∀ i j φ H, VR K φ H (h i j) (g i j)) (k : ∀ i j, c i j = true → C i j) : OpA K (rI C h) (aInt2c c g) := by
  intro φ H S x y a b Q W sr ra rb p
  unfold aInt2c at p
  split at p
  · cases ra; cases rb
    split at p
    · rename_i q
      exact ⟨_, _, rfl, rfl, k _ _ q, p.ok sr (e _ _ _ _)⟩
    · exact p.elim
  · exact p.elim
abbrev aSub := aInt2 fun i j => .int (i - j)
theorem k_sub : OpA K rSubI aSub := k_int2 fun _ _ _ _ => .int _
abbrev aDiv := aInt2c (fun _ j => decide (0 < j) && decide (j < 1073741824)) fun i j => .int (i / j)
theorem k_div : OpA K rDivI aDiv := k_int2c (fun _ _ _ _ => .int _) fun i j c => by simpa [CDiv] using c
abbrev aMod := aInt2c (fun _ j => decide (0 < j)) fun i j => .int (i % j)
theorem k_mod : OpA K rModI aMod := k_int2c (fun _ _ _ _ => .int _) fun i j c => by simpa using c
abbrev aPow := aInt2c (fun i j => decide (0 ≤ j) && (decide (j ≤ 1000000) && decide (i.natAbs < 18446744073709551616))) fun i j => .int (i ^ j.toNat)
theorem k_pow : OpA K rPowI aPow := k_int2c (fun _ _ _ _ => .int _) fun i j c => by simpa [CPow] using c
abbrev aLt := aInt2 fun i j => .bl (decide (i < j))
abbrev aLe := aInt2 fun i j => .bl (decide (i ≤ j))
abbrev aGt := aInt2 fun i j => .bl (decide (j < i))
abbrev aGe := aInt2 fun i j => .bl (decide (j ≤ i))
theorem k_lt : OpA K rLtI aLt := k_int2 fun _ _ _ _ => .bl _
theorem k_le : OpA K rLeI aLe := k_int2 fun _ _ _ _ => .bl _
theorem k_gt : OpA K rGtI aGt := k_int2 fun _ _ _ _ => .bl _
theorem k_ge : OpA K rGeI aGe := k_int2 fun _ _ _ _ => .bl _
def aMul (a b : A) (S : Sto) : R A := match a, b with
  | .int i, .int j => if (decide (-18446744073709551616 < i) && decide (i < 18446744073709551616) || decide (-18446744073709551616 < j) && decide (j < 18446744073709551616)) = true then .ok (.int (i * j)) S else .bad
  | .tup xs, .int j => if (decide (2 ≤ j) && (decide (j ≤ 1000) && (decide (xs.length ≤ 1000) && !xs.isEmpty))) = true then .ok (.tup (List.replicate j.toNat xs).flatten) S else .bad
  | .ref m, .int j => match S[m]? with
    | some (.lst xs) => if (decide (-1000000 ≤ j) && (decide (j ≤ 1000000) && decide (xs.length * j.toNat ≤ cap))) = true then .ok (.ref S.length) (S ++ [.lst (List.replicate j.toNat xs).flatten]) else .bad
    | _ => .bad
  | _, _ => .bad
theorem k_mul : OpA K (rMulA K) aMul := by
  intro φ H S x y a b Q W sr ra rb p
  unfold aMul at p
  split at p
  · cases ra; cases rb
    split at p
    · rename_i q
      refine .inl ⟨_, _, rfl, rfl, ?_, p.ok sr (.int _)⟩
      simpa [CMul] using q
    · exact p.elim
  · obtain ⟨q1, xs, rfl, s1, r1⟩ := ra.tupOf
    cases rb
    split at p
    · rename_i c
      simp only [Bool.and_eq_true, decide_eq_true_eq, Bool.not_eq_true'] at c
      obtain ⟨c1, c2, c3, c4⟩ := c
      refine .inr (.inr ⟨q1, _, xs, rfl, rfl, s1, fun e => ?_, c1, c2, by rw [r1.length]; exact c3, new_tup sr (r1.flat _) p⟩)
      subst e
      cases r1
      cases c4
    · exact p.elim
  · obtain ⟨q1, rfl, f1⟩ := ra.refOf
    cases rb
    split at p
    · rename_i e1
      obtain ⟨xs, h1, r1⟩ := sr.at f1 e1
      split at p
      · rename_i c
        simp only [Bool.and_eq_true, decide_eq_true_eq] at c
        obtain ⟨c1, c2, c3⟩ := c
        exact .inr (.inl ⟨q1, _, xs, rfl, rfl, h1, by omega, by omega, by rw [r1.length]; exact cap_size c3, new_lst sr (r1.flat _) p⟩)
      · exact p.elim
    · exact p.elim
  · exact p.elim
/-! ### == != in is -/
def rEqM (K : PySem.W.Frag) : R2 := fun x y H Q => ∃ d e, Dp K H x d ∧ Dp K H y e ∧ d.canLay0 = true ∧ e.canLay0 = true ∧ min d.depth e.depth ≤ 64 ∧ Q (.bl (PyData.eqv d e)) H
def rNeM (K : PySem.W.Frag) : R2 := fun x y H Q => ∃ d e, Dp K H x d ∧ Dp K H y e ∧ d.canLay0 = true ∧ e.canLay0 = true ∧ min d.depth e.depth ≤ 64 ∧ Q (.bl (!PyData.eqv d e)) H
def rInM (K : PySem.W.Frag) : R2 := fun x y H Q => ∃ d ds, Dp K H x d ∧ (Dp K H y (.list ds) ∨ Dp K H y (.tuple ds)) ∧ d.canLay0 = true ∧ PyData.canLayAll0 ds = true ∧ min (PyData.depthAll ds) d.depth ≤ 64 ∧ Q (.bl (ds.any fun z => PyData.eqv z d)) H
def rNiM (K : PySem.W.Frag) : R2 := fun x y H Q => ∃ d ds, Dp K H x d ∧ (Dp K H y (.list ds) ∨ Dp K H y (.tuple ds)) ∧ d.canLay0 = true ∧ PyData.canLayAll0 ds = true ∧ min (PyData.depthAll ds) d.depth ≤ 64 ∧ Q (.bl (!ds.any fun z => PyData.eqv z d)) H
section
variable {X : Cx}
theorem op_eqM (hu : X.A.units + 65 < cLine) : OpR X (compareOp .Eq) (rEqM X.K) := by
  intro pins s σ H x y v u Q I rx ry h
  obtain ⟨d, e, hd, he, cd, ce, m, q⟩ := h
  obtain ⟨as, r1⟩ := Dp.reads I d x v hd rx
  obtain ⟨bs, r2⟩ := Dp.reads I e y u he ry
  exact SeqAt.compareEq_reads r1 r2 cd ce (by omega) ⟨.bl _, H, I, rfl, q⟩
theorem op_neM (hu : X.A.units + 65 < cLine) : OpR X (compareOp .NotEq) (rNeM X.K) := by
  intro pins s σ H x y v u Q I rx ry h
  obtain ⟨d, e, hd, he, cd, ce, m, q⟩ := h
  obtain ⟨as, r1⟩ := Dp.reads I d x v hd rx
  obtain ⟨bs, r2⟩ := Dp.reads I e y u he ry
  exact SeqAt.compareNe_reads r1 r2 cd ce (by omega) ⟨.bl _, H, I, rfl, q⟩
theorem op_inM (hu : X.A.units + 65 < cLine) : OpR X (compareOp .In) (rInM X.K) := by
  intro pins s σ H x y v u Q I rx ry h
  obtain ⟨d, ds, hd, he, cd, ce, m, q⟩ := h
  obtain ⟨as, r1⟩ := Dp.reads I d x v hd rx
  rcases he with he | he
  · obtain ⟨bs, r2⟩ := Dp.reads I (.list ds) y u he ry
    exact SeqAt.in_list_reads r2 r1 ce cd (by omega) ⟨.bl _, H, I, rfl, q⟩
  · obtain ⟨bs, r2⟩ := Dp.reads I (.tuple ds) y u he ry
    exact SeqAt.in_tuple_reads r2 r1 ce cd (by omega) ⟨.bl _, H, I, rfl, q⟩
theorem op_niM (hu : X.A.units + 65 < cLine) : OpR X (compareOp .NotIn) (rNiM X.K) := by
  intro pins s σ H x y v u Q I rx ry h
  obtain ⟨d, ds, hd, he, cd, ce, m, q⟩ := h
  obtain ⟨as, r1⟩ := Dp.reads I d x v hd rx
  rcases he with he | he
  · obtain ⟨bs, r2⟩ := Dp.reads I (.list ds) y u he ry
    exact SeqAt.notIn_list_reads r2 r1 ce cd (by omega) ⟨.bl _, H, I, rfl, q⟩
  · obtain ⟨bs, r2⟩ := Dp.reads I (.tuple ds) y u he ry
    exact SeqAt.notIn_tuple_reads r2 r1 ce cd (by omega) ⟨.bl _, H, I, rfl, q⟩
end
def aEqB (a b : A) (S : Sto) : Option Bool := match toD S a, toD S b with
  | some d, some e => if min d.depth e.depth ≤ 64 then some (PyData.eqv d e) else none
  | _, _ => none
def aEq (a b : A) (S : Sto) : R A := match aEqB a b S with
  | some k => .ok (.bl k) S
  | none => .bad
def aNe (a b : A) (S : Sto) : R A := match aEqB a b S with
  | some k => .ok (.bl (!k)) S
  | none => .bad
theorem aEqB_of {a b : A} {x y : V} {k : Bool} (sr : SR K φ H S) (ra : VR K φ H x a) (rb : VR K φ H y b) (h : aEqB a b S = some k) : ∃ d e, Dp K H x d ∧ Dp K H y e ∧ d.canLay0 = true ∧ e.canLay0 = true ∧ min d.depth e.depth ≤ 64 ∧ k = PyData.eqv d e := by
  unfold aEqB at h
  cases e1 : toD S a with
  | none => rw [e1] at h; cases h
  | some d =>
    cases e2 : toD S b with
    | none => rw [e1, e2] at h; cases h
    | some e =>
      rw [e1, e2] at h
      simp only at h
      split at h
      · rename_i c
        obtain ⟨p1, c1⟩ := toD_dp sr ra e1
        obtain ⟨p2, c2⟩ := toD_dp sr rb e2
        exact ⟨d, e, p1, p2, c1, c2, c, (Option.some.inj h).symm⟩
      · cases h
theorem k_eq : OpA K (rEqM K) aEq := by
  intro φ H S x y a b Q W sr ra rb p
  unfold aEq at p
  cases q : aEqB a b S with
  | none => rw [q] at p; exact p.elim
  | some k =>
    rw [q] at p
    obtain ⟨d, e, h1, h2, h3, h4, h5, rfl⟩ := aEqB_of sr ra rb q
    exact ⟨d, e, h1, h2, h3, h4, h5, p.ok sr (.bl _)⟩
theorem k_ne : OpA K (rNeM K) aNe := by
  intro φ H S x y a b Q W sr ra rb p
  unfold aNe at p
  cases q : aEqB a b S with
  | none => rw [q] at p; exact p.elim
  | some k =>
    rw [q] at p
    obtain ⟨d, e, h1, h2, h3, h4, h5, rfl⟩ := aEqB_of sr ra rb q
    exact ⟨d, e, h1, h2, h3, h4, h5, p.ok sr (.bl _)⟩
def aInB (a b : A) (S : Sto) : Option Bool := match toD S a, toD S b with
  | some d, some (.list ds) => if min (PyData.depthAll ds) d.depth ≤ 64 then some (ds.any fun z => PyData.eqv z d) else none
  | some d, some (.tuple ds) => if min (PyData.depthAll ds) d.depth ≤ 64 then some (ds.any fun z => PyData.eqv z d) else none
  | _, _ => none
def aIn (a b : A) (S : Sto) : R A := match aInB a b S with
  | some k => .ok (.bl k) S
  | none => .bad
def aNi (a b : A) (S : Sto) : R A := match aInB a b S with
  | some k => .ok (.bl (!k)) S
  | none => .bad
theorem aInB_of {a b : A} {x y : V} {k : Bool} (sr : SR K φ H S) (ra : VR K φ H x a) (rb : VR K φ H y b) (h : aInB a b S = some k) :
    ∃ d ds, Dp K H x d ∧ (Dp K H y (.list ds) ∨ Dp K H y (.tuple ds)) ∧ d.canLay0 = true ∧ PyData.canLayAll0 ds = true ∧ min (PyData.depthAll ds) d.depth ≤ 64 ∧ k = ds.any fun z => PyData.eqv z d := by
  unfold aInB at h
  split at h
  · rename_i d ds e1 e2
    split at h
    · rename_i c
      obtain ⟨p1, c1⟩ := toD_dp sr ra e1
      obtain ⟨p2, c2⟩ := toD_dp sr rb e2
      exact ⟨d, ds, p1, .inl p2, c1, by simpa [PyData.canLay0] using c2, c, (Option.some.inj h).symm⟩
    · cases h
  · rename_i d ds e1 e2
    split at h
    · rename_i c
      obtain ⟨p1, c1⟩ := toD_dp sr ra e1
      obtain ⟨p2, c2⟩ := toD_dp sr rb e2
      exact ⟨d, ds, p1, .inr p2, c1, by simpa [PyData.canLay0] using c2, c, (Option.some.inj h).symm⟩
    · cases h
  · cases h
theorem k_in : OpA K (rInM K) aIn := by
  intro φ H S x y a b Q W sr ra rb p
  unfold aIn at p
  cases q : aInB a b S with
  | none => rw [q] at p; exact p.elim
  | some k =>
    rw [q] at p
    obtain ⟨d, e, h1, h2, h3, h4, h5, rfl⟩ := aInB_of sr ra rb q
    exact ⟨d, e, h1, h2, h3, h4, h5, p.ok sr (.bl _)⟩
theorem k_ni : OpA K (rNiM K) aNi := by
  intro φ H S x y a b Q W sr ra rb p
  unfold aNi at p
  cases q : aInB a b S with
  | none => rw [q] at p; exact p.elim
  | some k =>
    rw [q] at p
    obtain ⟨d, e, h1, h2, h3, h4, h5, rfl⟩ := aInB_of sr ra rb q
    exact ⟨d, e, h1, h2, h3, h4, h5, p.ok sr (.bl _)⟩
def A.isNon : A → Bool
  | .non => true
  | _ => false
theorem isNon_eq {x : V} {a : A} (r : VR K φ H x a) : decide (x = .non) = a.isNon := by cases r <;> simp [A.isNon]
def aIsN (a b : A) (S : Sto) : R A := if b.isNon = true then .ok (.bl a.isNon) S else .bad
def aNotN (a b : A) (S : Sto) : R A := if b.isNon = true then .ok (.bl (!a.isNon)) S else .bad
theorem isNon_of {x : V} {a : A} (r : VR K φ H x a) (e : a.isNon = true) : x = .non := by cases r <;> first | rfl | cases e
theorem k_isN : OpA K rIsN aIsN := by
  intro φ H S x y a b Q W sr ra rb p
  unfold aIsN at p
  split at p
  · rename_i c
    refine ⟨isNon_of rb c, ?_⟩
    rw [isNon_eq ra]
    exact p.ok sr (.bl _)
  · exact p.elim
theorem k_notN : OpA K rNotN aNotN := by
  intro φ H S x y a b Q W sr ra rb p
  unfold aNotN at p
  split at p
  · rename_i c
    refine ⟨isNon_of rb c, ?_⟩
    rw [isNon_eq ra]
    exact p.ok sr (.bl _)
  · exact p.elim
def aBl2 (g : Bool → Bool → Bool) (a b : A) (S : Sto) : R A := match a, b with
  | .bl i, .bl j => .ok (.bl (g i j)) S
  | _, _ => .bad
abbrev aIsB := aBl2 fun i j => decide (i = j)
abbrev aNotB := aBl2 fun i j => !decide (i = j)
theorem k_isB : OpA K rIsB aIsB := by
  intro φ H S x y a b Q W sr ra rb p
  unfold aIsB aBl2 at p
  split at p
  · cases ra; cases rb
    exact ⟨_, _, rfl, rfl, p.ok sr (.bl _)⟩
  · exact p.elim
theorem k_notB : OpA K rNotB aNotB := by
  intro φ H S x y a b Q W sr ra rb p
  unfold aNotB aBl2 at p
  split at p
  · cases ra; cases rb
    exact ⟨_, _, rfl, rfl, p.ok sr (.bl _)⟩
  · exact p.elim
/-! ### x[i] -/
theorem VRs.atI {as : List A} {a : A} {vs : List V} {i : Int} (h : VRs K φ H vs as) (e : atI as i = some a) : ∃ v, L2.atI vs i = some v ∧ VR K φ H v a := by
  unfold L2.atI at e ⊢
  rw [h.length]
  cases q : ixN as.length i with
  | none => rw [q] at e; cases e
  | some j =>
    rw [q] at e
    exact h.get e
def aIx (a b : A) (S : Sto) : R A := match a, b with
  | .tup xs, .int i => match atI xs i with
    | some v => .ok v S
    | none => .bad
  | .seq xs, .int i => match atI xs i with
    | some v => .ok v S
    | none => .bad
  | .ref n, .int i => match S[n]? with
    | some (.lst xs) => match atI xs i with
      | some v => .ok v S
      | none => .bad
    | _ => .bad
  | _, _ => .bad
theorem k_ix : OpA K (rIx K) aIx := by
  intro φ H S x y a b Q W sr ra rb p
  unfold aIx at p
  split at p
  · obtain ⟨q1, xs, rfl, s1, r1⟩ := ra.tupOf
    cases rb
    split at p
    · rename_i e
      obtain ⟨v, ev, rv⟩ := r1.atI e
      exact .inr (.inl ⟨q1, xs, _, v, rfl, rfl, s1, ev, p.ok sr rv⟩)
    · exact p.elim
  · obtain ⟨q1, xs, rfl, s1, r1⟩ := ra.seqOf
    cases rb
    split at p
    · rename_i e
      obtain ⟨v, ev, rv⟩ := r1.atI e
      exact .inl ⟨q1, xs, _, v, rfl, rfl, s1, ev, p.ok sr rv⟩
    · exact p.elim
  · obtain ⟨q1, rfl, f1⟩ := ra.refOf
    cases rb
    split at p
    · rename_i e1
      obtain ⟨xs, h1, r1⟩ := sr.at f1 e1
      split at p
      · rename_i e
        obtain ⟨v, ev, rv⟩ := r1.atI e
        exact .inl ⟨q1, xs, _, v, rfl, rfl, sqL h1, ev, p.ok sr rv⟩
      · exact p.elim
    · exact p.elim
  · exact p.elim
/-! ### x[lo:hi] -/
def cutA (xs : List A) (lo hi : Option Int) : List A := (xs.drop (HT.sIx xs.length 0 lo)).take (HT.sIx xs.length xs.length hi - HT.sIx xs.length 0 lo)
theorem VRs.cut {as : List A} {vs : List V} (h : VRs K φ H vs as) (lo hi : Option Int) : VRs K φ H (cutV vs lo hi) (cutA as lo hi) := by
  unfold cutV cutA
  rw [h.length]
  exact (h.drop _).take _
theorem cutV_all {vs : List V} {lo hi : Option Int} (h : HT.sIx vs.length 0 lo = 0 ∧ HT.sIx vs.length vs.length hi = vs.length) : cutV vs lo hi = vs := by
  unfold cutV
  rw [h.1, h.2]
  simp
def aSl (a : A) (lo hi : Option Int) (S : Sto) : R A := match a with
  | .tup xs => .ok (.tup (cutA xs lo hi)) S
  | .ref n => match S[n]? with
    | some (.lst xs) => .ok (.ref S.length) (S ++ [.lst (cutA xs lo hi)])
    | _ => .bad
  | _ => .bad
theorem k_sl {x : V} {a : A} {lo hi : Option Int} (sr : SR K φ H S) (ra : VR K φ H x a) (p : Post (VR K) K φ H (aSl a lo hi S) Q W) : rSlX K x lo hi H Q := by
  unfold aSl at p
  split at p
  · obtain ⟨q1, xs, rfl, s1, r1⟩ := ra.tupOf
    refine .inr ⟨q1, xs, rfl, s1, fun e => ?_, fun _ => new_tup sr (r1.cut lo hi) p⟩
    refine p.ok sr (.tup s1 ?_)
    have := r1.cut lo hi
    rw [cutV_all e] at this
    exact this
  · obtain ⟨q1, rfl, f1⟩ := ra.refOf
    split at p
    · rename_i e1
      obtain ⟨xs, h1, r1⟩ := sr.at f1 e1
      exact .inl ⟨q1, xs, rfl, sqL h1, new_lst sr (r1.cut lo hi) p⟩
    · exact p.elim
  · exact p.elim
/-! ### truth -/
def aTru (a : A) (S : Sto) : R Bool := match a with
  | .non => .ok false S
  | .bl b => .ok b S
  | .int i => .ok (i != 0) S
  | .tup xs => .ok (!xs.isEmpty) S
  | .ref n => match S[n]? with
    | some (.lst xs) => .ok (!xs.isEmpty) S
    | some (.dK false kvs) => .ok (!kvs.isEmpty) S
    | _ => .bad
  | _ => .bad
theorem empty_eq {α β : Type} {l : List α} {m : List β} (h : l.length = m.length) : l.isEmpty = m.isEmpty := by
  cases l <;> cases m <;> simp_all
theorem k_tru {x : V} {a : A} {Q : Bool → Hp → Prop} (sr : SR K φ H S) (ra : VR K φ H x a) (p : Post eR K φ H (aTru a S) Q W) : ∃ k, TruV K x H k ∧ Q k H := by
  unfold aTru at p
  split at p
  · cases ra; exact ⟨_, rfl, p.ok sr rfl⟩
  · cases ra; exact ⟨_, rfl, p.ok sr rfl⟩
  · cases ra; exact ⟨_, rfl, p.ok sr rfl⟩
  · obtain ⟨q1, xs, rfl, s1, r1⟩ := ra.tupOf
    refine ⟨_, .inr (.inl ⟨xs, s1, rfl⟩), ?_⟩
    rw [empty_eq r1.length]
    exact p.ok sr rfl
  · obtain ⟨q1, rfl, f1⟩ := ra.refOf
    split at p
    · rename_i e1
      obtain ⟨xs, h1, r1⟩ := sr.at f1 e1
      refine ⟨_, .inl ⟨xs, sqL h1, rfl⟩, ?_⟩
      rw [empty_eq r1.length]
      exact p.ok sr rfl
    · rename_i kvs e1
      obtain ⟨ks, h1, r1⟩ := sr.at f1 e1
      refine ⟨_, .inr (.inr ⟨ks, h1, rfl⟩), ?_⟩
      rw [empty_eq (Paired.length r1)]
      exact p.ok sr rfl
    · exact p.elim
  · exact p.elim
end
end RA
/-! RA: the rest of the expressions. -/
namespace RA
open PySem PySem.Spec PyProof.Rows L2 Rb
section
variable {X : Cx} {W : WX} {e a b c : Expr} {es : List Expr} {fe fa fb fc : AE} {fs : AA} {pos apos cpos : Pos}
/-! ### tests -/
theorem rd_chain {K : PySem.W.Frag} {r r' : R2} {o o' : A → A → Sto → R A} {σ : L2.St} {H : Hp} {Q : VK} (k : OpA K r o) (k' : OpA K r' o') (h : rdE K W (xChain o o' fa fb fc) σ H Q) :
    tChain r r' (rdE K W fa) (rdE K W fb) (rdE K W fc) σ H Q := by
  obtain ⟨φ, as, S, sr, sl, p⟩ := h
  refine rd_step sr sl p fun φ1 x a S1 H1 x1 sr1 sl1 ra p1 => ?_
  refine rd_step sr1 sl1 p1 fun φ2 y b S2 H2 x2 sr2 sl2 rb p2 => ?_
  refine k φ2 H2 S2 x y a b _ _ sr2 (VR.up ra x2) rb (Post.bnd p2 fun φ3 H3 z a3 S3 _ x3 sr3 r3 p3 => ?_)
  unfold aChain at p3
  split at p3
  · cases r3
    refine ⟨true, rfl, ?_⟩
    rw [if_pos rfl]
    exact rd_step sr3 (sl2.up x3) p3 fun φ4 y' b' S4 H4 x4 sr4 sl4 rc p4 => k' φ4 H4 S4 y y' b b' _ _ sr4 (VR.up (VR.up rb x3) x4) rc p4
  · cases r3
    refine ⟨false, rfl, ?_⟩
    rw [if_neg (by decide)]
    exact p3.ok sr3 (.bl _)
  · exact p3.elim
theorem d_chain {op op' : CmpOp} {r r' : R2} {o o' : A → A → Sto → R A} (ho : OpR X (compareOp op) r) (ho' : OpR X (compareOp op') r') (k : OpA X.K r o) (k' : OpA X.K r' o') (ha : PE X a (rdE X.K W fa)) (hb : PE X b (rdE X.K W fb)) (hc : PE X c (rdE X.K W fc))
    (hm : lastMarks [op, op'] [b, c] = false := by with_unfolding_all rfl) : PE X (.Compare a [op, op'] [b, c] pos) (rdE X.K W (xChain o o' fa fb fc)) := PE_mono (pe_chain ho ho' ha hb hc hm) fun _ _ _ h => rd_chain k k' h
theorem d_tchain {op op' : CmpOp} {r r' : R2} {o o' : A → A → Sto → R A} (ho : OpR X (compareOp op) r) (ho' : OpR X (compareOp op') r') (k : OpA X.K r o) (k' : OpA X.K r' o') (ha : PE X a (rdE X.K W fa)) (hb : PE X b (rdE X.K W fb)) (hc : PE X c (rdE X.K W fc))
    (hm : lastMarks [op, op'] [b, c] = false := by with_unfolding_all rfl) : PT X (.Compare a [op, op'] [b, c] pos) (rdT X.K W (xT (xChain o o' fa fb fc))) := PT_mono (pt_chain ho ho' ha hb hc hm) fun _ _ _ h => rd_chain k k' (rd_test h)
def xTru (fe : AE) : AT := fun as S => (fe as S).bnd aTru
theorem d_tru (h : PE X e (rdE X.K W fe)) (he : ∀ whole, isTrue e X.env whole = (do let v ← whole; standAt e.pos; holding [v] (truthy v)) := by intro _; rfl) : PT X e (rdT X.K W (xTru fe)) := by
  refine PT_mono (pt_truth h he) fun σ H Q ⟨φ, as, S, sr, sl, p⟩ => ?_
  exact rd_step sr sl p fun φ1 x a S1 H1 x1 sr1 sl1 ra p1 => k_tru sr1 ra p1
/-- a test by a comparison's own rule -/
theorem d_tpc {op : CmpOp} (h : PC X op a b (rdE X.K W fe)) (h1 : behindInMarks op b = false := by first | exact nobehind _ (by decide) (by decide) | rfl) : PT X (.Compare a [op] [b] pos) (rdT X.K W (xT fe)) := PT_mono (pt_cmp h h1) fun _ _ _ h => rd_test h
theorem PC_mono {op : CmpOp} {t t' : TE} (h : PC X op a b t) (k : ∀ σ H Q, t' σ H Q → t σ H Q) : PC X op a b t' := ⟨fun pins s σ H Q I q => h.run pins s σ H Q I (k σ H Q q)⟩
def xNotT (f : AT) : AT := fun as S => (f as S).bnd fun k S1 => .ok (!k) S1
def xAndT (f g : AT) : AT := fun as S => (f as S).bnd fun k S1 => if k = true then g as S1 else .ok false S1
def xOrT (f g : AT) : AT := fun as S => (f as S).bnd fun k S1 => if k = true then .ok true S1 else g as S1
variable {ft gt : AT}
theorem d_not (h : PT X a (rdT X.K W ft)) : PT X (.UnaryOp .Not a pos) (rdT X.K W (xNotT ft)) := by
  refine PT_mono (pt_not h) fun σ H Q ⟨φ, as, S, sr, sl, p⟩ => ?_
  exact rd_step sr sl p fun φ1 x a S1 H1 x1 sr1 sl1 ra p1 => by cases ra; exact p1.ok sr1 rfl
theorem d_and1 (h : PT X a (rdT X.K W ft)) : PW X (.BoolOp .And [a] pos) (rdT X.K W ft) := pw_and1 h
theorem d_or1 (h : PT X a (rdT X.K W ft)) : PW X (.BoolOp .Or [a] pos) (rdT X.K W ft) := pw_or1 h
theorem d_and {rest : List Expr} (h : PT X a (rdT X.K W ft)) (k : PW X (.BoolOp .And (b :: rest) pos) (rdT X.K W gt)) : PW X (.BoolOp .And (a :: b :: rest) pos) (rdT X.K W (xAndT ft gt)) := by
  refine PW_mono (pw_and h k) fun σ H Q ⟨φ, as, S, sr, sl, p⟩ => ?_
  refine rd_step sr sl p fun φ1 x a S1 H1 x1 sr1 sl1 ra p1 => ?_
  cases ra
  cases x with
  | true => exact rd_last sr1 sl1 p1
  | false => exact p1.ok sr1 rfl
theorem d_or {rest : List Expr} (h : PT X a (rdT X.K W ft)) (k : PW X (.BoolOp .Or (b :: rest) pos) (rdT X.K W gt)) : PW X (.BoolOp .Or (a :: b :: rest) pos) (rdT X.K W (xOrT ft gt)) := by
  refine PW_mono (pw_or h k) fun σ H Q ⟨φ, as, S, sr, sl, p⟩ => ?_
  refine rd_step sr sl p fun φ1 x a S1 H1 x1 sr1 sl1 ra p1 => ?_
  cases ra
  cases x with
  | false => exact rd_last sr1 sl1 p1
  | true => exact p1.ok sr1 rfl
/-! ### and, or, not as values; if .. else; - -/
def aAndV (g : Sto → R A) (a : A) (S : Sto) : R A := match a with
  | .bl true => g S
  | .bl false => .ok (.bl false) S
  | _ => .bad
def aOrV (g : Sto → R A) (a : A) (S : Sto) : R A := match a with
  | .bl false => g S
  | .bl true => .ok (.bl true) S
  | _ => .bad
def xAnd (fa fb : AE) : AE := fun as S => (fa as S).bnd (aAndV (fb as))
def xOr (fa fb : AE) : AE := fun as S => (fa as S).bnd (aOrV (fb as))
def aNotV (a : A) (S : Sto) : R A := match a with
  | .bl b => .ok (.bl (!b)) S
  | _ => .bad
def xNot (fa : AE) : AE := fun as S => (fa as S).bnd aNotV
theorem d_vone {op} (h : PE X a (rdE X.K W fa)) : PE X (.BoolOp op [a] pos) (rdE X.K W fa) := pe_one h
theorem d_vand {rest : List Expr} (h : PE X a (rdE X.K W fa)) (k : PE X (.BoolOp .And (b :: rest) pos) (rdE X.K W fb)) : PE X (.BoolOp .And (a :: b :: rest) pos) (rdE X.K W (xAnd fa fb)) := by
  refine PE_mono (pe_and h k) fun σ H Q ⟨φ, as, S, sr, sl, p⟩ => ?_
  refine rd_step sr sl p fun φ1 x a S1 H1 x1 sr1 sl1 ra p1 => ?_
  unfold aAndV at p1
  split at p1
  · cases ra; exact ⟨true, rfl, rd_last sr1 sl1 p1⟩
  · cases ra; exact ⟨false, rfl, p1.ok sr1 (.bl _)⟩
  · exact p1.elim
theorem d_vor {rest : List Expr} (h : PE X a (rdE X.K W fa)) (k : PE X (.BoolOp .Or (b :: rest) pos) (rdE X.K W fb)) : PE X (.BoolOp .Or (a :: b :: rest) pos) (rdE X.K W (xOr fa fb)) := by
  refine PE_mono (pe_or h k) fun σ H Q ⟨φ, as, S, sr, sl, p⟩ => ?_
  refine rd_step sr sl p fun φ1 x a S1 H1 x1 sr1 sl1 ra p1 => ?_
  unfold aOrV at p1
  split at p1
  · cases ra; exact ⟨false, rfl, rd_last sr1 sl1 p1⟩
  · cases ra; exact ⟨true, rfl, p1.ok sr1 (.bl _)⟩
  · exact p1.elim
theorem d_vnot (h : PE X a (rdE X.K W fa)) : PE X (.UnaryOp .Not a pos) (rdE X.K W (xNot fa)) := by
  refine PE_mono (pe_not h) fun σ H Q ⟨φ, as, S, sr, sl, p⟩ => ?_
  refine rd_step sr sl p fun φ1 x a S1 H1 x1 sr1 sl1 ra p1 => ?_
  unfold aNotV at p1
  split at p1
  · cases ra; exact ⟨_, rfl, p1.ok sr1 (.bl _)⟩
  · exact p1.elim
def xIf (ft : AT) (fa fb : AE) : AE := fun as S => (ft as S).bnd fun k S1 => if k = true then fa as S1 else fb as S1
theorem d_ifx {t : Expr} (ht : PT X t (rdT X.K W ft)) (ha : PE X a (rdE X.K W fa)) (hb : PE X b (rdE X.K W fb)) : PE X (.IfExp t a b pos) (rdE X.K W (xIf ft fa fb)) := by
  refine PE_mono (pe_ifExp ht ha hb) fun σ H Q ⟨φ, as, S, sr, sl, p⟩ => ?_
  refine rd_step sr sl p fun φ1 x a S1 H1 x1 sr1 sl1 ra p1 => ?_
  cases ra
  cases x with
  | true => exact rd_last sr1 sl1 p1
  | false => exact rd_last sr1 sl1 p1
def aNeg (a : A) (S : Sto) : R A := match a with
  | .int i => .ok (.int (-i)) S
  | _ => .bad
def xNeg (fa : AE) : AE := fun as S => (fa as S).bnd aNeg
theorem d_neg (h : PE X a (rdE X.K W fa)) : PE X (.UnaryOp .USub a pos) (rdE X.K W (xNeg fa)) := by
  refine PE_mono (pe_un un_negI h) fun σ H Q ⟨φ, as, S, sr, sl, p⟩ => ?_
  refine rd_step sr sl p fun φ1 x a S1 H1 x1 sr1 sl1 ra p1 => ?_
  unfold aNeg at p1
  split at p1
  · cases ra; exact ⟨_, rfl, p1.ok sr1 (.int _)⟩
  · exact p1.elim
/-! ### arguments, displays -/
def xNil : AA := fun _ S => .ok [] S
def xCons (fe : AE) (fs : AA) : AA := fun as S => (fe as S).bnd fun a S1 => (fs as S1).bnd fun r S2 => .ok (a :: r) S2
theorem d_nil : PA X [] (rdA X.K W xNil) := PA_mono pa_nil fun σ H Q ⟨φ, as, S, sr, sl, p⟩ => p.ok sr .nil
theorem d_cons (h : PE X e (rdE X.K W fe)) (k : PA X es (rdA X.K W fs)) (hs : starEach (e :: es) X.env = (false, eval e X.env) :: starEach es X.env := by rfl) : PA X (e :: es) (rdA X.K W (xCons fe fs)) := by
  refine PA_mono (pa_cons h k hs) fun σ H Q ⟨φ, as, S, sr, sl, p⟩ => ?_
  refine rd_step sr sl p fun φ1 x a S1 H1 x1 sr1 sl1 ra p1 => ?_
  refine rd_step sr1 sl1 p1 fun φ2 xs r S2 H2 x2 sr2 sl2 rr p2 => ?_
  exact p2.ok sr2 (.cons (VR.up ra x2) rr)
def aTup (as : List A) (S : Sto) : R A := if as.length ≤ cap then .ok (.tup as) S else .bad
def aLst (as : List A) (S : Sto) : R A := if as.length ≤ cap then .ok (.ref S.length) (S ++ [.lst as]) else .bad
def xTup (fs : AA) : AE := fun as S => (fs as S).bnd aTup
def xLst (fs : AA) : AE := fun as S => (fs as S).bnd aLst
theorem d_tup {x1} (h : PA X es (rdA X.K W fs)) : PE X (.Tuple es x1 pos) (rdE X.K W (xTup fs)) := by
  refine PE_mono (pe_tup h) fun σ H Q ⟨φ, as, S, sr, sl, p⟩ => ?_
  refine rd_step sr sl p fun φ1 x a S1 H1 x1 sr1 sl1 ra p1 => ?_
  unfold aTup at p1
  split at p1
  · rename_i c
    exact ⟨by rw [ra.length]; exact cap_size c, new_tup sr1 ra p1⟩
  · exact p1.elim
theorem d_lst (h : PA X es (rdA X.K W fs)) : PE X (.List es pos) (rdE X.K W (xLst fs)) := by
  refine PE_mono (pe_lst h) fun σ H Q ⟨φ, as, S, sr, sl, p⟩ => ?_
  refine rd_step sr sl p fun φ1 x a S1 H1 x1 sr1 sl1 ra p1 => ?_
  unfold aLst at p1
  split at p1
  · rename_i c
    exact ⟨by rw [ra.length]; exact cap_size c, new_lst sr1 ra p1⟩
  · exact p1.elim
/-! ### x[i], x[lo:hi] -/
theorem d_ix (ha : PE X a (rdE X.K W fa)) (hb : PE X b (rdE X.K W fb)) (hs : PlainIx b) : PE X (.Subscript a b pos) (rdE X.K W (xOp aIx fa fb)) := PE_mono (pe_ix ix_seq ha hb hs) fun _ _ _ h => rd_op k_ix h
abbrev AO' := Slo → Sto → R (Option Int)
abbrev rdO (K : PySem.W.Frag) (W : WX) (f : AO') : TO := rdX K eR W f
theorem PO_mono {o : Option Expr} {t t' : TO} (h : PO X o t) (k : ∀ σ H Q, t' σ H Q → t σ H Q) : PO X o t' := ⟨fun pins s σ H Q I q => h.run pins s σ H Q I (k σ H Q q)⟩
def xNoPart : AO' := fun _ S => .ok none S
def aPart (a : A) (S : Sto) : R (Option Int) := match a with
  | .int i => .ok (some i) S
  | _ => .bad
def xPart (fe : AE) : AO' := fun as S => (fe as S).bnd aPart
theorem d_nopart : PO X none (rdO X.K W xNoPart) := PO_mono po_none fun σ H Q ⟨φ, as, S, sr, sl, p⟩ => p.ok sr rfl
theorem d_part (h : PE X e (rdE X.K W fe)) : PO X (some e) (rdO X.K W (xPart fe)) := by
  refine PO_mono (po_some h) fun σ H Q ⟨φ, as, S, sr, sl, p⟩ => ?_
  refine rd_step sr sl p fun φ1 x a S1 H1 x1 sr1 sl1 ra p1 => ?_
  unfold aPart at p1
  split at p1
  · cases ra; exact ⟨_, rfl, p1.ok sr1 rfl⟩
  · exact p1.elim
def xSl (fe : AE) (fl fh : AO') : AE := fun as S => (fe as S).bnd fun a S1 => (fl as S1).bnd fun l S2 => (fh as S2).bnd fun h S3 => aSl a l h S3
theorem d_sl {lo hi : Option Expr} {fl fh : AO'} {p2 : Pos} (h : PE X e (rdE X.K W fe)) (hl : PO X lo (rdO X.K W fl)) (hh : PO X hi (rdO X.K W fh)) : PE X (.Subscript e (.Slice lo hi none p2) pos) (rdE X.K W (xSl fe fl fh)) := by
  refine PE_mono (pe_slice sl_A h hl hh) fun σ H Q ⟨φ, as, S, sr, sl, p⟩ => ?_
  refine rd_step sr sl p fun φ1 x a S1 H1 x1 sr1 sl1 ra p1 => ?_
  refine rd_step sr1 sl1 p1 fun φ2 l a2 S2 H2 x2 sr2 sl2 rl p2 => ?_
  refine rd_step sr2 sl2 p2 fun φ3 u a3 S3 H3 x3 sr3 sl3 ru p3 => ?_
  cases rl; cases ru
  exact k_sl sr3 (VR.up (VR.up ra x2) x3) p3
/-! ### fields -/
def fget (f : String) : List (String × A) → Option A
  | [] => none
  | (g, a) :: r => if g = f then some a else fget f r
def fput (f : String) (a : A) : List (String × A) → List (String × A)
  | [] => [(f, a)]
  | (g, b) :: r => if g = f then (g, a) :: r else (g, b) :: fput f a r
theorem fget_mem {f : String} {a : A} : ∀ {fs : List (String × A)}, fget f fs = some a → f ∈ fs.map (·.1)
  | [], h => by cases h
  | (g, b) :: r, h => by
    unfold fget at h
    by_cases e : g = f
    · subst e; simp
    · rw [if_neg e] at h
      simp only [List.map_cons, List.mem_cons]
      exact .inr (fget_mem h)
theorem FR.get {K : PySem.W.Frag} {φ : List Addr} {H : Hp} {gs : List (Str × V)} {fs : List (String × A)} (h : FR K φ H gs fs) {f : String} {a : A} (e : fget f fs = some a) : ∃ v, gs.lookup (Str.ofString f) = some v ∧ VR K φ H v a := by
  unfold FR at h
  induction h with
  | nil => cases e
  | @cons p q ps qs r t ih =>
    obtain ⟨g, v⟩ := p
    obtain ⟨g', b⟩ := q
    obtain ⟨e1, e2⟩ := r
    simp only at e1 e2
    subst e1
    unfold fget at e
    by_cases c : g' = f
    · rw [if_pos c] at e
      injection e with e
      subst e c
      exact ⟨v, by simp [List.lookup], e2⟩
    · rw [if_neg c] at e
      obtain ⟨w, h1, h2⟩ := ih e
      have hb : (Str.ofString f == Str.ofString g') = false := beq_eq_false_iff_ne.mpr fun z => c (str_inj z).symm
      exact ⟨w, by simp only [List.lookup, hb]; exact h1, h2⟩
theorem FR.none {K : PySem.W.Frag} {φ : List Addr} {H : Hp} {gs : List (Str × V)} {fs : List (String × A)} (h : FR K φ H gs fs) {f : String} (e : fget f fs = none) : gs.lookup (Str.ofString f) = none := by
  unfold FR at h
  induction h with
  | nil => rfl
  | @cons p q ps qs r t ih =>
    obtain ⟨g, v⟩ := p
    obtain ⟨g', b⟩ := q
    obtain ⟨e1, e2⟩ := r
    simp only at e1 e2
    subst e1
    unfold fget at e
    by_cases c : g' = f
    · rw [if_pos c] at e; cases e
    · rw [if_neg c] at e
      have hb : (Str.ofString f == Str.ofString g') = false := beq_eq_false_iff_ne.mpr fun z => c (str_inj z).symm
      simp only [List.lookup, hb]
      exact ih e
theorem FR.put {K : PySem.W.Frag} {φ : List Addr} {H : Hp} {gs : List (Str × V)} {fs : List (String × A)} (h : FR K φ H gs fs) {f : String} {a : A} {v : V} (r : VR K φ H v a) : FR K φ H (putF (Str.ofString f) v gs) (fput f a fs) := by
  unfold FR at h ⊢
  induction h with
  | nil => exact .cons ⟨rfl, r⟩ .nil
  | @cons p q ps qs r1 t ih =>
    obtain ⟨g, w⟩ := p
    obtain ⟨g', b⟩ := q
    obtain ⟨e1, e2⟩ := r1
    simp only at e1 e2
    subst e1
    unfold putF fput
    by_cases c : g' = f
    · subst c
      rw [if_pos rfl, if_pos rfl]
      exact .cons ⟨rfl, r⟩ t
    · rw [if_neg c, if_neg fun z => c (str_inj z)]
      exact .cons ⟨rfl, e2⟩ ih
theorem fput_keys {f : String} {a : A} : ∀ {fs : List (String × A)}, ∀ g ∈ (fput f a fs).map (·.1), g = f ∨ g ∈ fs.map (·.1)
  | [], g, h => by simpa [fput] using h
  | (k, b) :: r, g, h => by
    unfold fput at h
    by_cases c : k = f
    · rw [if_pos c] at h
      exact .inr (by simpa using h)
    · rw [if_neg c] at h
      simp only [List.map_cons, List.mem_cons] at h ⊢
      rcases h with h | h
      · exact .inr (.inl h)
      · rcases fput_keys g h with h | h
        · exact .inl h
        · exact .inr (.inr h)
theorem fput_len {f : String} {a : A} : ∀ {fs : List (String × A)}, (fput f a fs).length ≤ fs.length + 1
  | [] => by simp [fput]
  | (k, b) :: r => by
    unfold fput
    split
    · simp
    · have := fput_len (f := f) (a := a) (fs := r)
      simp only [List.length_cons]
      omega
theorem fput_len0 {f : String} {a b : A} : ∀ {fs : List (String × A)}, fget f fs = some b → (fput f a fs).length = fs.length
  | [], h => by cases h
  | (k, c) :: r, h => by
    unfold fget at h
    unfold fput
    by_cases q : k = f
    · rw [if_pos q]; rfl
    · rw [if_neg q] at h ⊢
      simp only [List.length_cons]
      rw [fput_len0 h]
def aFld (f : String) (a : A) (S : Sto) : R A := match a with
  | .ref n => match S[n]? with
    | some (.ins _ fs) => match fget f fs with
      | some v => .ok v S
      | none => .bad
    | _ => .bad
  | _ => .bad
def xFld (fe : AE) (f : String) : AE := fun as S => (fe as S).bnd (aFld f)
theorem d_fld (f : String) (h : PE X e (rdE X.K W fe)) (hb : attributeBase e (Str.ofString f) X.env (eval e X.env) = eval e X.env) : PE X (.Attribute e (Str.ofString f) pos) (rdE X.K W (xFld fe f)) := by
  refine PE_mono (pe_fld h hb) fun σ H Q ⟨φ, as, S, sr, sl, p⟩ => ?_
  refine rd_step sr sl p fun φ1 x a S1 H1 x1 sr1 sl1 ra p1 => ?_
  unfold aFld at p1
  split at p1
  · obtain ⟨q1, rfl, f1⟩ := ra.refOf
    split at p1
    · rename_i e1
      obtain ⟨dx, gs, h1, c1, n1, l1, r1⟩ := sr1.at f1 e1
      split at p1
      · rename_i e2
        obtain ⟨v, h2, r2⟩ := r1.get e2
        exact ⟨q1, _, dx, gs, v, rfl, h1, c1, n1 f (fget_mem e2), h2, p1.ok sr1 r2⟩
      · exact p1.elim
    · exact p1.elim
  · exact p1.elim
end
end RA
/-! RA: calls. -/
namespace RA
open PySem PySem.Spec PyProof.Rows L2 Rb
abbrev FA := List A → Sto → R A
/-- a def's promise by its function -/
def spA (K : PySem.W.Frag) (f : FA) : Sp := fun vs H Q E => ∃ φ as S, SR K φ H S ∧ VRs K φ H vs as ∧ Post (VR K) K φ H (f as S) Q (fun H' => E (NV K) none H')
section
variable {X : Cx} {W : WX} {e a b c o : Expr} {es : List Expr} {fe fa fb fc : AE} {fs : AA} {pos apos cpos p : Pos} {CX : CXT} {k : Nat} {f : Addr} {fd : FuncData} {ps : List Str} {g : FA} {x : Str} {m C : String}
def xCall (g : FA) (fs : AA) : AE := fun as S => (fs as S).bnd g
theorem post_spA {K : PySem.W.Frag} {φ : List Addr} {H : Hp} {S : Sto} {as : List A} {vs : List V} {Q : VK} {E : XK} (sr : SR K φ H S) (r : VRs K φ H vs as) (p : Post (VR K) K φ H (g as S) Q (fun H' => E (NV K) none H')) : spA K g vs H Q E := ⟨φ, as, S, sr, r, p⟩
theorem d_call (F : FnOk X.prog X.w X.K X.mg X.base CX k f fd ps (spA X.K g)) (hr : Room k X.A) (hg : Gl X x) (hm : X.mg x = some (.ref f)) (hk : PySem.W.keepIn X.K (.ref f) = true) (hb : Binds X.K fd ps []) (hx : ∀ σ, PassesAt CX X σ (WE W σ))
    (ha : PA X (e :: es) (rdA X.K W fs)) (hdb : (x == ("__debug__" : Str)) = false := by decide) (he : starEach (e :: es) X.env = (false, eval e X.env) :: starEach es X.env := by rfl) (hpl : (backTo pos (starEach es X.env)).any (·.1) = false := by rfl) :
    PE X (.Call (.Name x p) (e :: es) [] pos) (rdE X.K W (xCall g fs)) := by
  refine PE_mono (pe_callS F hr hg hm hk hb hx ha hdb he hpl) fun σ H Q ⟨φ, as, S, sr, sl, p⟩ => ?_
  exact rd_step sr sl p fun φ1 x a S1 H1 x1 sr1 sl1 ra p1 => post_spA sr1 ra p1
def xCall0 (g : FA) : AE := fun _ S => (g [] S).calm
theorem post_calm {α β : Type} {Rel : List Addr → Hp → β → α → Prop} {K : PySem.W.Frag} {φ : List Addr} {H : Hp} {r : R α} {Q : β → Hp → Prop} {W W' : Hp → Prop} (p : Post Rel K φ H r.calm Q W) : Post Rel K φ H r Q W' := by
  cases r with
  | ok a S => exact p
  | exc S => exact p.elim
  | bad => exact p.elim
theorem d_call0 (F : FnOk X.prog X.w X.K X.mg X.base (L2.CX X.prog X.w) k f fd ps (spA X.K g)) (hr : Room k X.A) (hg : Gl X x) (hm : X.mg x = some (.ref f)) (hk : PySem.W.keepIn X.K (.ref f) = true) (hb : Binds X.K fd ps [])
    (hdb : (x == ("__debug__" : Str)) = false := by decide) : PE X (.Call (.Name x p) [] [] pos) (rdE X.K W (xCall0 g)) := by
  refine PE_mono (pe_call0 F hr hg hm hk hb .nil passL hdb) fun σ H Q ⟨φ, as, S, sr, sl, p⟩ => ?_
  exact post_spA sr .nil (post_calm p)
/-! ### methods -/
def aRecv (C m : String) (a : A) (S : Sto) : R A := match a with
  | .ref n => match S[n]? with
    | some (.ins D fs) => if D = C then match fget m fs with
        | none => .ok (.ref n) S
        | some _ => .bad
      else .bad
    | _ => .bad
  | _ => .bad
def xMeth (C m : String) (g : FA) (fe : AE) (fs : AA) : AE := fun as S => (fe as S).bnd fun a S1 => (aRecv C m a S1).bnd fun r S2 => (fs as S2).bnd fun l S3 => g (r :: l) S3
def xMeth0 (C m : String) (g : FA) (fe : AE) : AE := fun as S => (fe as S).bnd fun a S1 => (aRecv C m a S1).bnd fun r S2 => (g [r] S2).calm
theorem recv_of {K : PySem.W.Frag} {φ : List Addr} {H : Hp} {S : Sto} {a : A} {v : V} {β α : Type} {Rel : List Addr → Hp → β → α → Prop} {h : A → Sto → R α} {Q : β → Hp → Prop} {Wx : Hp → Prop} (sr : SR K φ H S) (r : VR K φ H v a)
    (p : Post Rel K φ H ((aRecv C m a S).bnd h) Q Wx) : ∃ q dx gs, v = .ref q ∧ H q = some (.ins (He.ga K (Str.ofString C)) dx gs) ∧ gs.lookup (Str.ofString m) = none ∧ Post Rel K φ H (h a S) Q Wx := by
  unfold aRecv at p
  split at p
  · obtain ⟨q1, rfl, f1⟩ := r.refOf
    split at p
    · rename_i e1
      obtain ⟨dx, gs, h1, c1, n1, l1, r1⟩ := sr.at f1 e1
      split at p
      · rename_i eC
        subst eC
        split at p
        · rename_i e2
          exact ⟨q1, dx, gs, rfl, h1, r1.none e2, p⟩
        · exact p.elim
      · exact p.elim
    · exact p.elim
  · exact p.elim
theorem d_meth {pl : Sem Bool} (ho : PE X o (rdE X.K W fe)) (c : Cls X.K (He.ga X.K (Str.ofString C))) (hm : Meth X.K (He.ga X.K (Str.ofString C)) (Str.ofString m) f) (F : FnOk X.prog X.w X.K X.mg X.base CX k f fd ps (spA X.K g)) (hr : Room k X.A) (hb : Binds X.K fd ps []) (hx : ∀ σ, PassesAt CX X σ (WE W σ))
    (ha : PA X (e :: es) (rdA X.K W fs)) (hst : starEach (e :: es) X.env = (false, eval e X.env) :: starEach es X.env := by rfl) (hpl : (backTo pos (starEach es X.env)).any (·.1) = false := by rfl)
    (ht : eval (.Call (.Attribute o (Str.ofString m) apos) (e :: es) [] pos) X.env = (do
      let ov ← eval o X.env
      standAt apos.atName
      let (f, first) ← holding [ov] (getMethod ov (Str.ofString m) pl)
      callWith pos f first (backTo pos (starEach (e :: es) X.env)) (backToKw pos (keywordEach [] X.env))) := by rfl) :
    PE X (.Call (.Attribute o (Str.ofString m) apos) (e :: es) [] pos) (rdE X.K W (xMeth C m g fe fs)) := by
  refine PE_mono (pe_methS ho c hm F hr hb hx ha hst hpl ht) fun σ H Q ⟨φ, as, S, sr, sl, p⟩ => ?_
  refine rd_step sr sl p fun φ1 x a S1 H1 x1 sr1 sl1 ra p1 => ?_
  obtain ⟨q, dx, gs, rfl, h1, l1, p2⟩ := recv_of sr1 ra p1
  refine ⟨q, dx, gs, rfl, h1, l1, ?_⟩
  exact rd_step sr1 sl1 p2 fun φ2 y l S2 H2 x2 sr2 sl2 rl p3 => post_spA sr2 (.cons (VR.up ra x2) rl) p3
theorem d_meth0 {pl : Sem Bool} (ho : PE X o (rdE X.K W fe)) (c : Cls X.K (He.ga X.K (Str.ofString C))) (hm : Meth X.K (He.ga X.K (Str.ofString C)) (Str.ofString m) f) (F : FnOk X.prog X.w X.K X.mg X.base (L2.CX X.prog X.w) k f fd ps (spA X.K g)) (hr : Room k X.A) (hb : Binds X.K fd ps [])
    (ht : eval (.Call (.Attribute o (Str.ofString m) apos) [] [] pos) X.env = (do
      let ov ← eval o X.env
      standAt apos.atName
      let (f, first) ← holding [ov] (getMethod ov (Str.ofString m) pl)
      callWith pos f first (backTo pos (starEach [] X.env)) (backToKw pos (keywordEach [] X.env))) := by rfl) :
    PE X (.Call (.Attribute o (Str.ofString m) apos) [] [] pos) (rdE X.K W (xMeth0 C m g fe)) := by
  refine PE_mono (pe_meth0 ho c hm F hr hb .nil passL ht) fun σ H Q ⟨φ, as, S, sr, sl, p⟩ => ?_
  refine rd_step sr sl p fun φ1 x a S1 H1 x1 sr1 sl1 ra p1 => ?_
  obtain ⟨q, dx, gs, rfl, h1, l1, p2⟩ := recv_of sr1 ra p1
  refine ⟨q, dx, gs, rfl, h1, l1, ?_⟩
  exact post_spA sr1 (VRs.one ra) (post_calm p2)
/-! ### C(..) -/
/-- what is behind __init__ -/
def aMade (n : Nat) (a : A) (S : Sto) : R A := if a.isNon = true then .ok (.ref n) S else .bad
def aMake (C : String) (g : FA) (l : List A) (S : Sto) : R A := ((g (.ref S.length :: l) (S ++ [.ins C []])).calm).bnd (aMade S.length)
def xMake (C : String) (g : FA) (fs : AA) : AE := fun as S => (fs as S).bnd (aMake C g)
theorem calm_bnd {α : Type} (r : R α) {β : Type} (f : α → Sto → R β) : (r.calm).bnd f = (match r with | .ok a s => f a s | _ => .bad) := by cases r <;> rfl
theorem make_of {K : PySem.W.Frag} {φ : List Addr} {H : Hp} {S : Sto} {l : List A} {vs : List V} {Q : VK} {Wx : Hp → Prop} (c : Cls K (He.ga K (Str.ofString C))) (sr : SR K φ H S) (r : VRs K φ H vs l) (p : Post (VR K) K φ H (aMake C g l S) Q Wx)
    (x dx : Addr) (hx : H x = none) (hdx : H dx = none) (ne : dx ≠ x) : spA K g (.ref x :: vs) (upd (upd H dx (.own x)) x (.ins (He.ga K (Str.ofString C)) dx [])) (fun v H2 => v = .non ∧ Q (.ref x) H2) E0 := by
  have hx1 : (upd H dx (.own x)) x = none := by rw [upd_ne ne.symm]; exact hx
  have e1 : Ext K φ H φ (upd H dx (.own x)) := Ext.new hdx
  have sr1 : SR K φ (upd H dx (.own x)) S := sr.new hdx
  have e2 := Ext.push (K := K) (φ := φ) (ho := .ins (He.ga K (Str.ofString C)) dx []) hx1
  have sr2 := sr1.push (o := .ins C []) (ho := .ins (He.ga K (Str.ofString C)) dx []) hx1 ⟨dx, [], upd_same, c, by simp, by decide, .nil⟩
  refine ⟨_, .ref S.length :: l, _, sr2, .cons (.ref (at_new sr x)) ((r.up e1).up e2), ?_⟩
  unfold aMake at p
  rw [calm_bnd] at p
  cases q : g (.ref S.length :: l) (S ++ [.ins C []]) with
  | ok a S' =>
    rw [q] at p
    simp only [aMade] at p
    intro φ' H' v x' sr' rv
    split at p
    · rename_i ea
      have n0 := isNon_of rv ea
      exact ⟨n0, Post.okX p ((e1.trans e2).trans x') sr' (.ref (pre_get x'.pre (at_new sr x)))⟩
    · exact p.elim
  | exc S' => rw [q] at p; exact p.elim
  | bad => rw [q] at p; exact p.elim
theorem d_make (c : Cls X.K (He.ga X.K (Str.ofString C))) (M : Mk X.K (He.ga X.K (Str.ofString C)) f) (F : FnOk X.prog X.w X.K X.mg X.base (L2.CX X.prog X.w) k f fd ps (spA X.K g)) (hr : Room (k + 1) X.A) (hg : Gl X x) (hm : X.mg x = some (.ref (He.ga X.K (Str.ofString C)))) (hb : Binds X.K fd ps [])
    (ha : PA X (e :: es) (rdA X.K W fs)) (hdb : (x == ("__debug__" : Str)) = false := by decide) (he : starEach (e :: es) X.env = (false, eval e X.env) :: starEach es X.env := by rfl) (hpl : (backTo pos (starEach es X.env)).any (·.1) = false := by rfl) :
    PE X (.Call (.Name x p) (e :: es) [] pos) (rdE X.K W (xMake C g fs)) := by
  refine PE_mono (pe_make M F hr hg hm hb .nil passL ha hdb he hpl) fun σ H Q ⟨φ, as, S, sr, sl, p⟩ => ?_
  refine rd_step sr sl p fun φ1 vs l S1 H1 x1 sr1 sl1 ra p1 => fun x dx hx hdx ne => ?_
  rw [List.append_nil]
  exact make_of c sr1 ra p1 x dx hx hdx ne
/-- with one default value -/
def xMakeD (C : String) (g : FA) (d : A) (fs : AA) : AE := fun as S => (fs as S).bnd fun l S1 => aMake C g (l ++ [d]) S1
theorem d_makeD {dv : V} {dw : Value} {d : A} (hd : RelV dv dw) (hdA : ∀ φ H, VR X.K φ H dv d) (c : Cls X.K (He.ga X.K (Str.ofString C))) (M : Mk X.K (He.ga X.K (Str.ofString C)) f) (F : FnOk X.prog X.w X.K X.mg X.base (L2.CX X.prog X.w) k f fd ps (spA X.K g)) (hr : Room (k + 1) X.A) (hg : Gl X x) (hm : X.mg x = some (.ref (He.ga X.K (Str.ofString C)))) (hb : Binds X.K fd ps [dw])
    (ha : PA X (e :: es) (rdA X.K W fs)) (hdb : (x == ("__debug__" : Str)) = false := by decide) (he : starEach (e :: es) X.env = (false, eval e X.env) :: starEach es X.env := by rfl) (hpl : (backTo pos (starEach es X.env)).any (·.1) = false := by rfl) :
    PE X (.Call (.Name x p) (e :: es) [] pos) (rdE X.K W (xMakeD C g d fs)) := by
  refine PE_mono (pe_make M F hr hg hm hb (.cons hd .nil) passL ha hdb he hpl) fun σ H Q ⟨φ, as, S, sr, sl, p⟩ => ?_
  refine rd_step sr sl p fun φ1 vs l S1 H1 x1 sr1 sl1 ra p1 => fun x dx hx hdx ne => ?_
  exact make_of c sr1 (ra.app (VRs.one (hdA _ _))) p1 x dx hx hdx ne
def xMake0 (C : String) (g : FA) : AE := fun _ S => aMake C g [] S
theorem d_make0 (c : Cls X.K (He.ga X.K (Str.ofString C))) (M : Mk X.K (He.ga X.K (Str.ofString C)) f) (F : FnOk X.prog X.w X.K X.mg X.base (L2.CX X.prog X.w) k f fd ps (spA X.K g)) (hr : Room (k + 1) X.A) (hg : Gl X x) (hm : X.mg x = some (.ref (He.ga X.K (Str.ofString C)))) (hb : Binds X.K fd ps [])
    (hdb : (x == ("__debug__" : Str)) = false := by decide) : PE X (.Call (.Name x p) [] [] pos) (rdE X.K W (xMake0 C g)) := by
  refine PE_mono (pe_make0 M F hr hg hm hb .nil passL hdb) fun σ H Q ⟨φ, as, S, sr, sl, p⟩ => fun x dx hx hdx ne => ?_
  exact make_of c sr .nil p x dx hx hdx ne
/-! ### built-ins -/
def CallA (K : PySem.W.Frag) (r : List V → Hp → VK → Prop) (g : FA) : Prop := ∀ (φ : List Addr) (H : Hp) (S : Sto) (xs : List V) (as : List A) (Q : VK) (Wx : Hp → Prop), SR K φ H S → VRs K φ H xs as → Post (VR K) K φ H (g as S) Q Wx → r xs H Q
theorem rd_cb {K : PySem.W.Frag} {r : List V → Hp → VK → Prop} {σ : L2.St} {H : Hp} {Q : VK} (kc : CallA K r g) (h : rdE K W (xCall g fs) σ H Q) : tCB r (rdA K W fs) σ H Q := by
  obtain ⟨φ, as, S, sr, sl, p⟩ := h
  exact rd_step sr sl p fun φ1 xs l S1 H1 x1 sr1 sl1 ra p1 => kc φ1 H1 S1 xs l Q _ sr1 ra p1
theorem d_callB {id : String} {r : List V → Hp → VK → Prop} (hc : CallR X (.builtin id) r) (kc : CallA X.K r g) (hg : Gl X x) (hm : X.mg x = none) (hv : bootBuiltins x = some (.builtin id)) (ha : PA X (e :: es) (rdA X.K W fs)) (hn : x ≠ "__name__" := by decide) (hdb : (x == ("__debug__" : Str)) = false := by decide)
    (he : starEach (e :: es) X.env = (false, eval e X.env) :: starEach es X.env := by rfl) (hpl : (backTo pos (starEach es X.env)).any (·.1) = false := by rfl) : PE X (.Call (.Name x p) (e :: es) [] pos) (rdE X.K W (xCall g fs)) :=
  PE_mono (pe_callB hc hg hm hv ha hn hdb he hpl) fun _ _ _ h => rd_cb kc h
theorem d_callTy {T : String} {r : List V → Hp → VK → Prop} (hc : CallR X (.type T) r) (kc : CallA X.K r g) (hg : Gl X x) (hm : X.mg x = none) (hv : bootBuiltins x = some (.type T)) (ha : PA X (e :: es) (rdA X.K W fs)) (hn : x ≠ "__name__" := by decide) (hdb : (x == ("__debug__" : Str)) = false := by decide)
    (he : starEach (e :: es) X.env = (false, eval e X.env) :: starEach es X.env := by rfl) (hpl : (backTo pos (starEach es X.env)).any (·.1) = false := by rfl) : PE X (.Call (.Name x p) (e :: es) [] pos) (rdE X.K W (xCall g fs)) :=
  PE_mono (pe_callTy hc hg hm hv ha hn hdb he hpl) fun _ _ _ h => rd_cb kc h
end
section
variable {K : PySem.W.Frag} {φ : List Addr} {H : Hp}
theorem VRs.oneOf {xs : List V} {a : A} (h : VRs K φ H xs [a]) : ∃ x, xs = [x] ∧ VR K φ H x a := by
  cases h with
  | cons r t => cases t; exact ⟨_, rfl, r⟩
theorem VRs.twoOf {xs : List V} {a b : A} (h : VRs K φ H xs [a, b]) : ∃ x y, xs = [x, y] ∧ VR K φ H x a ∧ VR K φ H y b := by
  cases h with
  | cons r t =>
    obtain ⟨y, rfl, r2⟩ := t.oneOf
    exact ⟨_, _, rfl, r, r2⟩
def bLen (as : List A) (S : Sto) : R A := match as with
  | [.tup xs] => .ok (.int xs.length) S
  | [.seq xs] => .ok (.int xs.length) S
  | [.ref n] => match S[n]? with
    | some (.lst xs) => .ok (.int xs.length) S
    | some (.dK false xs) => .ok (.int xs.length) S
    | _ => .bad
  | _ => .bad
def rLenM (K : PySem.W.Frag) : List V → Hp → VK → Prop := fun xs H Q => rLenA K xs H Q ∨ ∃ a kvs, xs = [.ref a] ∧ H a = some (.dK kvs) ∧ Q (.int (kvs.length : Nat)) H
theorem k_len : CallA K (rLenM K) bLen := by
  intro φ H S xs as Q Wx sr ra p
  unfold bLen at p
  split at p
  · obtain ⟨x, rfl, r⟩ := ra.oneOf
    obtain ⟨q, ys, rfl, s, r⟩ := r.tupOf
    refine .inl ⟨_, ys.length, rfl, .inr ⟨ys, s, rfl⟩, ?_⟩
    rw [r.length]
    exact p.ok sr (.int _)
  · obtain ⟨x, rfl, r⟩ := ra.oneOf
    obtain ⟨q, ys, rfl, s, r⟩ := r.seqOf
    refine .inl ⟨_, ys.length, rfl, .inl ⟨ys, s, rfl⟩, ?_⟩
    rw [r.length]
    exact p.ok sr (.int _)
  · obtain ⟨x, rfl, r⟩ := ra.oneOf
    obtain ⟨q1, rfl, f1⟩ := r.refOf
    split at p
    · rename_i e1
      obtain ⟨ys, h1, r1⟩ := sr.at f1 e1
      refine .inl ⟨_, ys.length, rfl, .inl ⟨ys, sqL h1, rfl⟩, ?_⟩
      rw [r1.length]
      exact p.ok sr (.int _)
    · rename_i e1
      obtain ⟨ys, h1, r1⟩ := sr.at f1 e1
      refine .inr ⟨q1, ys, rfl, h1, ?_⟩
      rw [Paired.length r1]
      exact p.ok sr (.int _)
    · exact p.elim
  · exact p.elim
theorem cr_lenM {X : Cx} : CallR X (.builtin "len") (rLenM X.K) := by
  intro pins s σ H xs us Q I r h
  rcases h with h | ⟨a, kvs, rfl, hd, q⟩
  · exact cr_len pins s σ H xs us Q I r h
  · exact call_lenD pins s σ H _ us Q I r ⟨a, kvs, rfl, hd, q⟩
def bAbs (as : List A) (S : Sto) : R A := match as with
  | [.int i] => .ok (.int (if i < 0 then -i else i)) S
  | _ => .bad
theorem k_abs : CallA K rAbsI bAbs := by
  intro φ H S xs as Q Wx sr ra p
  unfold bAbs at p
  split at p
  · obtain ⟨x, rfl, r⟩ := ra.oneOf
    cases r
    exact ⟨_, rfl, p.ok sr (.int _)⟩
  · exact p.elim
def bInt (as : List A) (S : Sto) : R A := match as with
  | [.int i] => .ok (.int i) S
  | [.bl k] => .ok (.int (if k then 1 else 0)) S
  | _ => .bad
theorem k_int : CallA K rIntC bInt := by
  intro φ H S xs as Q Wx sr ra p
  unfold bInt at p
  split at p
  · obtain ⟨x, rfl, r⟩ := ra.oneOf
    cases r
    exact .inl ⟨_, rfl, p.ok sr (.int _)⟩
  · obtain ⟨x, rfl, r⟩ := ra.oneOf
    cases r
    exact .inr ⟨_, rfl, p.ok sr (.int _)⟩
  · exact p.elim
def bMin (as : List A) (S : Sto) : R A := match as with
  | [.int i, .int j] => .ok (.int (if j < i then j else i)) S
  | _ => .bad
def bMax (as : List A) (S : Sto) : R A := match as with
  | [.int i, .int j] => .ok (.int (if j > i then j else i)) S
  | _ => .bad
theorem k_min : CallA K rMin2 bMin := by
  intro φ H S xs as Q Wx sr ra p
  unfold bMin at p
  split at p
  · obtain ⟨x, y, rfl, r, r2⟩ := ra.twoOf
    cases r; cases r2
    exact ⟨_, _, rfl, p.ok sr (.int _)⟩
  · exact p.elim
theorem k_max : CallA K rMax2 bMax := by
  intro φ H S xs as Q Wx sr ra p
  unfold bMax at p
  split at p
  · obtain ⟨x, y, rfl, r, r2⟩ := ra.twoOf
    cases r; cases r2
    exact ⟨_, _, rfl, p.ok sr (.int _)⟩
  · exact p.elim
def bList (as : List A) (S : Sto) : R A := match as with
  | [.tup xs] => .ok (.ref S.length) (S ++ [.lst xs])
  | [.seq xs] => .ok (.ref S.length) (S ++ [.lst xs])
  | [.ref n] => match S[n]? with
    | some (.lst xs) => .ok (.ref S.length) (S ++ [.lst xs])
    | _ => .bad
  | _ => .bad
theorem k_list : CallA K (rListC K) bList := by
  intro φ H S xs as Q Wx sr ra p
  unfold bList at p
  split at p
  · obtain ⟨x, rfl, r⟩ := ra.oneOf
    obtain ⟨q, ys, rfl, s, r⟩ := r.tupOf
    exact ⟨_, ys, rfl, .inr s, new_lst sr r p⟩
  · obtain ⟨x, rfl, r⟩ := ra.oneOf
    obtain ⟨q, ys, rfl, s, r⟩ := r.seqOf
    exact ⟨_, ys, rfl, .inl s, new_lst sr r p⟩
  · obtain ⟨x, rfl, r⟩ := ra.oneOf
    obtain ⟨q1, rfl, f1⟩ := r.refOf
    split at p
    · rename_i e1
      obtain ⟨ys, h1, r1⟩ := sr.at f1 e1
      exact ⟨_, ys, rfl, .inl (sqL h1), new_lst sr r1 p⟩
    · exact p.elim
  · exact p.elim
def bTuple (as : List A) (S : Sto) : R A := match as with
  | [.tup xs] => .ok (.tup xs) S
  | [.ref n] => match S[n]? with
    | some (.lst xs) => .ok (.tup xs) S
    | _ => .bad
  | _ => .bad
theorem k_tuple : CallA K (rTupC K) bTuple := by
  intro φ H S xs as Q Wx sr ra p
  unfold bTuple at p
  split at p
  · obtain ⟨x, rfl, r⟩ := ra.oneOf
    obtain ⟨q, ys, rfl, s, r⟩ := r.tupOf
    exact ⟨_, ys, rfl, .inr ⟨s, p.ok sr (.tup s r)⟩⟩
  · obtain ⟨x, rfl, r⟩ := ra.oneOf
    obtain ⟨q1, rfl, f1⟩ := r.refOf
    split at p
    · rename_i e1
      obtain ⟨ys, h1, r1⟩ := sr.at f1 e1
      exact ⟨_, ys, rfl, .inl ⟨sqL h1, new_tup sr r1 p⟩⟩
    · exact p.elim
  · exact p.elim
/-! isinstance -/
def tyA (S : Sto) : A → Option String
  | .non => some "NoneType"
  | .bl _ => some "bool"
  | .int _ => some "int"
  | .str _ => some "str"
  | .tup _ => some "tuple"
  | .seq _ => some "list"
  | .ref n => match S[n]? with
    | some (.lst _) => some "list"
    | some (.dK false _) => some "dict"
    | some (.dT _) => some "dict"
    | _ => none
  | _ => none
def kitA (t u : String) : Option Bool := match u with
  | "int" => some (t == "int" || t == "bool")
  | "bool" => some (t == "bool")
  | "str" => some (t == "str")
  | "tuple" => some (t == "tuple")
  | "list" => some (t == "list")
  | _ => none
def bIsi (as : List A) (S : Sto) : R A := match as with
  | [a, .ty u] => match tyA S a with
    | some t => match kitA t u with
      | some b => .ok (.bl b) S
      | none => .bad
    | none => .bad
  | _ => .bad
theorem tyA_of {S : Sto} {a : A} {t : String} {v : V} (sr : SR K φ H S) (r : VR K φ H v a) (h : tyA S a = some t) : TyX K H v (.type t) ∧ t ∈ ["NoneType", "bool", "int", "str", "tuple", "list", "dict"] := by
  cases r with
  | non => cases h; exact ⟨.base .non, by decide⟩
  | bl b => cases h; exact ⟨.base (.bl _), by decide⟩
  | int b => cases h; exact ⟨.base (.int _), by decide⟩
  | str b => cases h; exact ⟨.base (.str _), by decide⟩
  | tup s r =>
    cases h
    refine ⟨?_, by decide⟩
    rcases s with (h | ⟨o, h⟩) | ⟨o, its, n, hk, hc, _⟩
    · exact .base (.tup h)
    · exact .fTuple h
    · exact .kTuple hk hc
  | seq s r =>
    cases h
    refine ⟨?_, by decide⟩
    rcases s with ⟨o, h⟩ | ⟨o, its, n, hk, hc, _⟩
    · exact .base (.frz h)
    · exact .kList hk hc
  | @ref q n f1 =>
    unfold tyA at h
    cases e1 : S[n]? with
    | none => simp [e1] at h
    | some o =>
      cases o with
      | lst xs =>
        simp [e1] at h
        subst h
        obtain ⟨ys, h1, _⟩ := sr.at f1 e1
        exact ⟨.base (.lst h1), by decide⟩
      | dK l kvs =>
        cases l with
        | true => simp [e1] at h
        | false =>
          simp [e1] at h
          subst h
          obtain ⟨ys, h1, _⟩ := sr.at f1 e1
          exact ⟨.base (.dK h1), by decide⟩
      | dT kvs =>
        simp [e1] at h
        subst h
        obtain ⟨ys, h1, _⟩ := sr.at f1 e1
        exact ⟨.base (.dT h1), by decide⟩
      | ins C fs => simp [e1] at h
  | glo x => cases h
  | ty x => cases h
theorem kitA_of {t u : String} {b : Bool} (ht : t ∈ ["NoneType", "bool", "int", "str", "tuple", "list", "dict"]) (hu : u ∈ ["int", "bool", "str", "tuple", "list"]) (h : kitA t u = some b) : PySem.W.kitOne K (.type t) (.type u) = some b := by
  have key : kitB t u = some b := by
    rw [← h]
    revert ht hu
    clear h
    have : ∀ t' ∈ ["NoneType", "bool", "int", "str", "tuple", "list", "dict"], ∀ u' ∈ ["int", "bool", "str", "tuple", "list"], kitB t' u' = kitA t' u' := by decide +kernel
    exact fun ht hu => this t ht u hu
  exact kit_ty key
theorem k_isi : CallA K (rIsi K) bIsi := by
  intro φ H S xs as Q Wx sr ra p
  unfold bIsi at p
  split at p
  · rename_i a u
    obtain ⟨x, y, rfl, r, r2⟩ := ra.twoOf
    cases r2
    split at p
    · rename_i t e1
      split at p
      · rename_i b e2
        obtain ⟨h1, h2⟩ := tyA_of sr r e1
        have hu : u ∈ ["int", "bool", "str", "tuple", "list"] := by
          unfold kitA at e2
          split at e2
          · decide
          · decide
          · decide
          · decide
          · decide
          · cases e2
        exact ⟨x, .ty u, .type t, .type u, b, rfl, .ty u, h1, kitA_of h2 hu e2, p.ok sr (.bl _)⟩
      · exact p.elim
    · exact p.elim
  · exact p.elim
def boolsA : List A → Option (List Bool)
  | [] => some []
  | .bl b :: r => match boolsA r with
    | some l => some (b :: l)
    | none => none
  | _ :: _ => none
def intsA : List A → Option (List Int)
  | [] => some []
  | .int b :: r => match intsA r with
    | some l => some (b :: l)
    | none => none
  | _ :: _ => none
theorem boolsA_of : ∀ {as : List A} {bs : List Bool} {xs : List V}, VRs K φ H xs as → boolsA as = some bs → xs = bs.map V.bl
  | [], _, _, r, e => by cases r; cases e; rfl
  | .bl b :: as, bs, _, r, e => by
    cases r with
    | cons r t =>
      cases r
      unfold boolsA at e
      cases q : boolsA as with
      | none => rw [q] at e; cases e
      | some l =>
        rw [q] at e
        cases e
        rw [boolsA_of t q]
        rfl
  | .non :: _, _, _, _, e => by cases e
  | .int _ :: _, _, _, _, e => by cases e
  | .str _ :: _, _, _, _, e => by cases e
  | .tup _ :: _, _, _, _, e => by cases e
  | .seq _ :: _, _, _, _, e => by cases e
  | .ref _ :: _, _, _, _, e => by cases e
  | .glo _ :: _, _, _, _, e => by cases e
  | .ty _ :: _, _, _, _, e => by cases e
theorem intsA_of : ∀ {as : List A} {bs : List Int} {xs : List V}, VRs K φ H xs as → intsA as = some bs → xs = bs.map V.int
  | [], _, _, r, e => by cases r; cases e; rfl
  | .int b :: as, bs, _, r, e => by
    cases r with
    | cons r t =>
      cases r
      unfold intsA at e
      cases q : intsA as with
      | none => rw [q] at e; cases e
      | some l =>
        rw [q] at e
        cases e
        rw [intsA_of t q]
        rfl
  | .non :: _, _, _, _, e => by cases e
  | .bl _ :: _, _, _, _, e => by cases e
  | .str _ :: _, _, _, _, e => by cases e
  | .tup _ :: _, _, _, _, e => by cases e
  | .seq _ :: _, _, _, _, e => by cases e
  | .ref _ :: _, _, _, _, e => by cases e
  | .glo _ :: _, _, _, _, e => by cases e
  | .ty _ :: _, _, _, _, e => by cases e
theorem ints_VRs : ∀ ns : List Int, VRs K φ H (ns.map V.int) (ns.map A.int)
  | [] => .nil
  | n :: ns => .cons (.int n) (ints_VRs ns)
def bAny (as : List A) (S : Sto) : R A := match as with
  | [.ref n] => match S[n]? with
    | some (.lst xs) => match boolsA xs with
      | some bs => .ok (.bl (bs.any id)) S
      | none => .bad
    | _ => .bad
  | _ => .bad
def bAll (as : List A) (S : Sto) : R A := match as with
  | [.ref n] => match S[n]? with
    | some (.lst xs) => match boolsA xs with
      | some bs => .ok (.bl (bs.all id)) S
      | none => .bad
    | _ => .bad
  | _ => .bad
theorem k_any : CallA K (rAny K) bAny := by
  intro φ H S xs as Q Wx sr ra p
  unfold bAny at p
  split at p
  · obtain ⟨x, rfl, r⟩ := ra.oneOf
    obtain ⟨q1, rfl, f1⟩ := r.refOf
    split at p
    · rename_i e1
      obtain ⟨ys, h1, r1⟩ := sr.at f1 e1
      split at p
      · rename_i e2
        rw [boolsA_of r1 e2] at h1
        exact ⟨q1, _, rfl, sqL h1, p.ok sr (.bl _)⟩
      · exact p.elim
    · exact p.elim
  · exact p.elim
theorem k_all : CallA K (rAll K) bAll := by
  intro φ H S xs as Q Wx sr ra p
  unfold bAll at p
  split at p
  · obtain ⟨x, rfl, r⟩ := ra.oneOf
    obtain ⟨q1, rfl, f1⟩ := r.refOf
    split at p
    · rename_i e1
      obtain ⟨ys, h1, r1⟩ := sr.at f1 e1
      split at p
      · rename_i e2
        rw [boolsA_of r1 e2] at h1
        exact ⟨q1, _, rfl, sqL h1, p.ok sr (.bl _)⟩
      · exact p.elim
    · exact p.elim
  · exact p.elim
/-! sorted -/
def insI (x : Int) : List Int → List Int
  | [] => [x]
  | y :: r => if x ≤ y then x :: y :: r else y :: insI x r
def sortI : List Int → List Int
  | [] => []
  | x :: r => insI x (sortI r)
theorem insI_perm (x : Int) : ∀ l : List Int, (insI x l).Perm (x :: l)
  | [] => List.Perm.refl _
  | y :: r => by
    unfold insI
    split
    · exact List.Perm.refl _
    · exact ((insI_perm x r).cons y).trans (List.Perm.swap x y r)
theorem sortI_perm : ∀ l : List Int, (sortI l).Perm l
  | [] => List.Perm.refl _
  | x :: r => (insI_perm x _).trans ((sortI_perm r).cons x)
theorem insI_sorted (x : Int) : ∀ l : List Int, l.Pairwise (· ≤ ·) → (insI x l).Pairwise (· ≤ ·)
  | [], _ => by simp [insI]
  | y :: r, h => by
    unfold insI
    rw [List.pairwise_cons] at h
    split
    · rename_i c
      rw [List.pairwise_cons, List.pairwise_cons]
      refine ⟨fun z hz => ?_, h⟩
      rcases List.mem_cons.mp hz with rfl | hz
      · exact c
      · have := h.1 z hz; omega
    · rename_i c
      rw [List.pairwise_cons]
      refine ⟨fun z hz => ?_, insI_sorted x r h.2⟩
      rcases List.mem_cons.mp ((insI_perm x r).mem_iff.mp hz) with rfl | hz
      · omega
      · exact h.1 z hz
theorem sortI_sorted : ∀ l : List Int, (sortI l).Pairwise (· ≤ ·)
  | [] => by simp [sortI]
  | x :: r => insI_sorted x _ (sortI_sorted r)
theorem sorted_eq {l m : List Int} (p : l.Perm m) (hl : l.Pairwise (· ≤ ·)) (hm : m.Pairwise (· ≤ ·)) : l = m := List.Perm.eq_of_pairwise (fun a b _ _ h1 h2 => Int.le_antisymm h1 h2) hl hm p
def keysI : List (AK × A) → Option (List Int)
  | [] => some []
  | (.inl i, _) :: r => match keysI r with
    | some l => some (i :: l)
    | none => none
  | (.inr _, _) :: _ => none
def bSorted (as : List A) (S : Sto) : R A := match as with
  | [.ref n] => match S[n]? with
    | some (.lst xs) => match intsA xs with
      | some ns => .ok (.ref S.length) (S ++ [.lst ((sortI ns).map .int)])
      | none => .bad
    | some (.dK false kvs) => match keysI kvs with
      | some ns => if ns.length < 64 then .ok (.ref S.length) (S ++ [.lst ((sortI ns).map .int)]) else .bad
      | none => .bad
    | _ => .bad
  | _ => .bad
def rSortedM (K : PySem.W.Frag) : List V → Hp → VK → Prop := fun xs H Q => rSortedI K xs H Q ∨ rSortedDI xs H Q
theorem keysI_of : ∀ {kvs : List (AK × A)} {ns : List Int} {ks : List (Key × V)}, KR K φ H ks kvs → keysI kvs = some ns → ks.map (·.1) = ns.map Sum.inl
  | [], _, _, r, e => by cases r; cases e; rfl
  | (.inl i, a) :: kvs, ns, _, r, e => by
    cases r with
    | cons r t =>
      unfold keysI at e
      cases q : keysI kvs with
      | none => rw [q] at e; cases e
      | some l =>
        rw [q] at e
        cases e
        rw [List.map_cons, keysI_of t q, r.1]
        rfl
  | (.inr _, _) :: _, _, _, _, e => by cases e
theorem k_sorted : CallA K (rSortedM K) bSorted := by
  intro φ H S xs as Q Wx sr ra p
  unfold bSorted at p
  split at p
  · obtain ⟨x, rfl, r⟩ := ra.oneOf
    obtain ⟨q1, rfl, f1⟩ := r.refOf
    split at p
    · rename_i e1
      obtain ⟨ys, h1, r1⟩ := sr.at f1 e1
      split at p
      · rename_i ns e2
        rw [intsA_of r1 e2] at h1
        refine .inl ⟨q1, ns, rfl, sqL h1, fun ns' q hp hs hq => ?_⟩
        have : ns' = sortI ns := sorted_eq (hp.trans (sortI_perm ns).symm) hs (sortI_sorted ns)
        subst this
        exact new_lst sr (ints_VRs _) p q hq
      · exact p.elim
    · rename_i kvs e1
      obtain ⟨ks, h1, r1⟩ := sr.at f1 e1
      split at p
      · rename_i ns e2
        split at p
        · rename_i c
          refine .inr ⟨q1, ks, ns, rfl, .inl h1, keysI_of r1 e2, c, fun ns' q hp hs hq => ?_⟩
          have : ns' = sortI ns := sorted_eq (hp.trans (sortI_perm ns).symm) hs (sortI_sorted ns)
          subst this
          exact new_lst sr (ints_VRs _) p q hq
        · exact p.elim
      · exact p.elim
    · exact p.elim
  · exact p.elim
theorem cr_sortedM {X : Cx} (hc : X.calm = true) : CallR X (.builtin "sorted") (rSortedM X.K) := by
  intro pins s σ H xs us Q I r h
  rcases h with h | h
  · exact cr_sortedI pins s σ H xs us Q I r h
  · exact cr_sortedDI hc pins s σ H xs us Q I r h
/-! list(range(..)) -/
def rngA (a b : Int) : List A := (List.range (b - a).toNat).map fun i => A.int (a + (i : Nat))
theorem rng_VRs (a b : Int) : VRs K φ H (rgV a b) (rngA a b) := by
  unfold rgV rngA
  generalize (b - a).toNat = n
  induction n with
  | zero => exact .nil
  | succ n ih => rw [List.range_succ, List.map_append, List.map_append]; exact ih.app (VRs.one (.int _))
def bRange (as : List A) (S : Sto) : R A := match as with
  | [.int n] => if (decide (-1000000 ≤ n) && decide (n ≤ 1000000)) = true then .ok (.ref S.length) (S ++ [.lst (rngA 0 n)]) else .bad
  | [.int m, .int n] => if (decide (-1000000 ≤ m) && (decide (m ≤ 1000000) && (decide (-1000000 ≤ n) && decide (n ≤ 1000000)))) = true then .ok (.ref S.length) (S ++ [.lst (rngA m n)]) else .bad
  | _ => .bad
end
section
variable {X : Cx} {W : WX} {e a b : Expr} {fe fa fb : AE} {pos cpos p : Pos}
def xLRng1 (fa : AE) : AE := fun as S => (fa as S).bnd fun a S1 => bRange [a] S1
theorem d_lrng1 {q qos : Pos} (hc : X.calm = true) (hg : Gl X "list") (hm : X.mg "list" = none) (hg2 : Gl X "range") (hm2 : X.mg "range" = none) (ha : PE X a (rdE X.K W fa)) (na : starEach [a] X.env = (false, eval a X.env) :: starEach [] X.env := by rfl)
    (na2 : starEach [.Call (.Name "range" q) [a] [] qos] X.env = (false, eval (.Call (.Name "range" q) [a] [] qos) X.env) :: starEach [] X.env := by rfl) : PE X (.Call (.Name "list" p) [.Call (.Name "range" q) [a] [] qos] [] pos) (rdE X.K W (xLRng1 fa)) := by
  refine PE_mono (pe_listRg hc hg hm (prg_1 hg2 hm2 ha na) na2) fun σ H Q ⟨φ, as, S, sr, sl, p⟩ => ?_
  refine rd_step sr sl p fun φ1 x a S1 H1 x1 sr1 sl1 ra p1 => ?_
  unfold bRange at p1
  split at p1
  · rename_i eq
    cases eq
    cases ra
    split at p1
    · rename_i c
      simp only [Bool.and_eq_true, decide_eq_true_eq] at c
      exact ⟨_, rfl, ⟨by omega, by omega, by omega, by omega, by omega⟩, new_lst sr1 (rng_VRs _ _) p1⟩
    · exact p1.elim
  · rename_i eq
    cases eq
  · exact p1.elim
end
end RA
/-! RA: dicts; append. -/
namespace RA
open PySem PySem.Spec PyProof.Rows L2 Rb
/-! ### tables -/
section
variable {κ : Type} [DecidableEq κ]
def alk (k : κ) : List (κ × A) → Option A
  | [] => none
  | (j, a) :: r => if j = k then some a else alk k r
def aput (k : κ) (a : A) (kvs : List (κ × A)) : List (κ × A) := if (alk k kvs).isSome = true then kvs.map (fun kv => if kv.1 = k then (kv.1, a) else kv) else kvs ++ [(k, a)]
def adrop (k : κ) (kvs : List (κ × A)) : List (κ × A) := kvs.filter fun kv => decide (kv.1 ≠ k)
end
section
variable {K : PySem.W.Frag} {φ : List Addr} {H : Hp} {κ κ' : Type} [DecidableEq κ] [DecidableEq κ'] {g : κ → κ'}
def MR (K : PySem.W.Frag) (φ : List Addr) (H : Hp) {κ κ' : Type} (g : κ → κ') : List (κ' × V) → List (κ × A) → Prop := Paired fun p q => p.1 = g q.1 ∧ VR K φ H p.2 q.2
def oV (K : PySem.W.Frag) (φ : List Addr) (H : Hp) : Option V → Option A → Prop
  | some v, some a => VR K φ H v a
  | none, none => True
  | _, _ => False
theorem MR.get (inj : ∀ a b, g a = g b → a = b) {ks : List (κ' × V)} {kvs : List (κ × A)} (h : MR K φ H g ks kvs) (k : κ) : oV K φ H (valV ks (g k)) (alk k kvs) := by
  unfold MR at h
  induction h with
  | nil => exact trivial
  | @cons p q ps qs r t ih =>
    obtain ⟨j, v⟩ := p
    obtain ⟨j', a⟩ := q
    obtain ⟨e1, e2⟩ := r
    simp only at e1 e2
    subst e1
    unfold alk
    by_cases c : j' = k
    · subst c
      rw [valV_pos (p := (g j', v)) rfl, if_pos rfl]
      exact e2
    · rw [valV_neg (p := (g j', v)) fun z => c (inj _ _ z), if_neg c]
      exact ih
theorem MR.put (inj : ∀ a b, g a = g b → a = b) {ks : List (κ' × V)} {kvs : List (κ × A)} (h : MR K φ H g ks kvs) (k : κ) {v : V} {a : A} (r : VR K φ H v a) : MR K φ H g (putK ks (g k) v) (aput k a kvs) := by
  have e : (ks.any fun kv => decide (kv.1 = g k)) = (alk k kvs).isSome := by
    rw [valV_any]
    have := h.get inj k
    cases q1 : valV ks (g k) <;> cases q2 : alk k kvs <;> rw [q1, q2] at this <;> first | rfl | exact this.elim
  unfold putK aput
  rw [e]
  by_cases c : (alk k kvs).isSome = true
  · rw [if_pos c, if_pos c]
    clear c e
    unfold MR at h ⊢
    induction h with
    | nil => exact .nil
    | @cons p q ps qs r1 t ih =>
      rw [List.map_cons, List.map_cons]
      refine .cons ?_ ih
      by_cases c : q.1 = k
      · rw [if_pos (r1.1.trans (by rw [c])), if_pos c]
        exact ⟨r1.1, r⟩
      · rw [if_neg (fun z => c (inj _ _ (r1.1.symm.trans z))), if_neg c]
        exact r1
  · rw [if_neg c, if_neg c]
    exact Paired.snoc h ⟨rfl, r⟩
theorem MR.drop (inj : ∀ a b, g a = g b → a = b) {ks : List (κ' × V)} {kvs : List (κ × A)} (h : MR K φ H g ks kvs) (k : κ) : MR K φ H g (dropK ks (g k)) (adrop k kvs) := by
  unfold MR at h ⊢
  unfold dropK adrop
  induction h with
  | nil => exact .nil
  | @cons p q ps qs r1 t ih =>
    rw [List.filter_cons, List.filter_cons]
    by_cases c : q.1 = k
    · have a : ¬ decide (p.1 ≠ g k) = true := by simp [r1.1, c]
      have b : ¬ decide (q.1 ≠ k) = true := by simp [c]
      rw [if_neg a, if_neg b]
      exact ih
    · have a : decide (p.1 ≠ g k) = true := by simpa [r1.1] using fun z => c (inj _ _ z)
      have b : decide (q.1 ≠ k) = true := by simp [c]
      rw [if_pos a, if_pos b]
      exact .cons r1 ih
theorem MR.up {φ' : List Addr} {H' : Hp} {ks : List (κ' × V)} {kvs : List (κ × A)} (h : MR K φ H g ks kvs) (x : Ext K φ H φ' H') : MR K φ' H' g ks kvs := Paired.mapP h fun _ _ z => ⟨z.1, VR.up z.2 x⟩
theorem aput_len (k : κ) (a : A) (kvs : List (κ × A)) : (aput k a kvs).length ≤ kvs.length + 1 := by
  unfold aput
  split
  · rw [List.length_map]; omega
  · simp
end
theorem kkI : ∀ a b : AK, kk a = kk b → a = b := fun _ _ h => kk_inj h
theorem kksI : ∀ a b : List AK, a.map kk = b.map kk → a = b := fun _ _ h => kks_inj h
def A.key : A → Option AK
  | .int i => some (.inl i)
  | .str x => some (.inr x)
  | _ => none
def keysA : List A → Option (List AK)
  | [] => some []
  | a :: r => match a.key, keysA r with
    | some k, some l => some (k :: l)
    | _, _ => none
section
variable {K : PySem.W.Frag} {φ : List Addr} {H : Hp} {S : Sto}
theorem key_V {v : V} {a : A} {k : AK} (r : VR K φ H v a) (e : a.key = some k) : v = kV (kk k) := by
  cases r <;> cases e <;> rfl
theorem keys_V : ∀ {as : List A} {vs : List V} {ks : List AK}, VRs K φ H vs as → keysA as = some ks → vs = (ks.map kk).map kV
  | [], _, _, r, e => by cases r; cases e; rfl
  | a :: as, _, ks, r, e => by
    cases r with
    | cons r t =>
      unfold keysA at e
      cases q1 : a.key with
      | none => rw [q1] at e; cases e
      | some k =>
        cases q2 : keysA as with
        | none => rw [q1, q2] at e; cases e
        | some l =>
          rw [q1, q2] at e
          cases e
          rw [key_V r q1, keys_V t q2]
          rfl
theorem dK_rd {l : Bool} {kvs : List (AK × A)} {p : Addr} (h : OR K φ H p (.dK l kvs)) : ∃ ks, Rd H p (.dK ks) ∧ MR K φ H kk ks kvs := by
  obtain ⟨ks, h1, r1⟩ := h
  cases l with
  | true => obtain ⟨o, h1⟩ := h1; exact ⟨ks, .inr ⟨o, h1⟩, r1⟩
  | false => exact ⟨ks, .inl h1, r1⟩
/-- the dict at a value -/
def aDic (a : A) (S : Sto) : R A := match a with
  | .ref n => match S[n]? with
    | some (.dK _ _) => .ok a S
    | some (.dT _) => .ok a S
    | _ => .bad
  | _ => .bad
theorem dic_of {α β : Type} {Rel : List Addr → Hp → β → α → Prop} {a : A} {v : V} {h : A → Sto → R α} {Q : β → Hp → Prop} {Wx : Hp → Prop} (sr : SR K φ H S) (r : VR K φ H v a) (p : Post Rel K φ H ((aDic a S).bnd h) Q Wx) : ∃ q, v = .ref q ∧ IsD H q ∧ Post Rel K φ H (h a S) Q Wx := by
  unfold aDic at p
  split at p
  · obtain ⟨q1, rfl, f1⟩ := r.refOf
    split at p
    · rename_i e1
      obtain ⟨ks, h1, _⟩ := dK_rd (sr.at f1 e1)
      exact ⟨q1, rfl, .inl ⟨ks, h1⟩, p⟩
    · rename_i e1
      obtain ⟨ks, h1, _⟩ := sr.at f1 e1
      exact ⟨q1, rfl, .inr ⟨ks, .inl h1⟩, p⟩
    · exact p.elim
  · exact p.elim
/-- what a dict says of a key: known or not -/
def aLook (a k : A) (S : Sto) : Option (Option A) := match a with
  | .ref n => match S[n]?, k.key with
    | some (.dK _ kvs), some k => some (alk k kvs)
    | _, _ => none
  | _ => none
theorem look_of {a k : A} {v w : V} {o : Option A} (sr : SR K φ H S) (r : VR K φ H v a) (rk : VR K φ H w k) (e : aLook a k S = some o) : ∃ q u, v = .ref q ∧ DGet H q w u ∧ oV K φ H u o := by
  unfold aLook at e
  split at e
  · obtain ⟨q1, rfl, f1⟩ := r.refOf
    split at e
    · rename_i e1 e2
      obtain ⟨ks, h1, r1⟩ := dK_rd (sr.at f1 e1)
      cases e
      exact ⟨q1, _, rfl, .inl ⟨ks, _, h1, key_V rk e2, rfl⟩, r1.get kkI _⟩
    · cases e
  · cases e
/-- .. of a key that is a tuple just laid -/
def aLookT (a : A) (l : List A) (S : Sto) : Option (Option A) := match a with
  | .ref n => match S[n]?, keysA l with
    | some (.dT kvs), some k => some (alk k kvs)
    | _, _ => none
  | _ => none
theorem lookT_of {a : A} {l : List A} {v : V} {vs : List V} {o : Option A} {p : Addr} (sr : SR K φ H S) (r : VR K φ H v a) (rk : VRs K φ H vs l) (hp : H p = some (.tup vs)) (e : aLookT a l S = some o) : ∃ q u, v = .ref q ∧ DGet H q (.ref p) u ∧ oV K φ H u o := by
  unfold aLookT at e
  split at e
  · obtain ⟨q1, rfl, f1⟩ := r.refOf
    split at e
    · rename_i e1 e2
      obtain ⟨ks, h1, r1⟩ := sr.at f1 e1
      cases e
      rw [keys_V rk e2] at hp
      exact ⟨q1, _, rfl, .inr ⟨ks, _, p, .inl h1, rfl, hp, rfl⟩, MR.get (g := List.map kk) kksI r1 _⟩
    · cases e
  · cases e
theorem oV_some {u : Option V} {a : A} (h : oV K φ H u (some a)) : ∃ v, u = some v ∧ VR K φ H v a := by
  cases u with
  | some v => exact ⟨v, rfl, h⟩
  | none => exact h.elim
theorem oV_getD {u : Option V} {o : Option A} {w : V} {b : A} (h : oV K φ H u o) (r : VR K φ H w b) : VR K φ H (u.getD w) (o.getD b) := by
  cases u with
  | some v => cases o with
    | some a => exact h
    | none => exact h.elim
  | none => cases o with
    | some a => exact h.elim
    | none => exact r
theorem oV_isSome {u : Option V} {o : Option A} (h : oV K φ H u o) : u.isSome = o.isSome := by
  cases u <;> cases o <;> first | rfl | exact h.elim
def aGet (a k : A) (S : Sto) : R A := match aLook a k S with
  | some (some v) => .ok v S
  | _ => .bad
def aGetD (a k d : A) (S : Sto) : R A := match aLook a k S with
  | some o => .ok (o.getD d) S
  | _ => .bad
def aHas (g : Bool → Bool) (a k : A) (S : Sto) : R A := match k with
  | .non => match a with
    | .ref n => match S[n]? with
      | some (.dK _ _) => .ok (.bl (g false)) S
      | _ => .bad
    | _ => .bad
  | k => match aLook a k S with
    | some o => .ok (.bl (g o.isSome)) S
    | _ => .bad
def aGetT (a : A) (l : List A) (S : Sto) : R A := match aLookT a l S with
  | some (some v) => .ok v S
  | _ => .bad
def aGetDT (a : A) (l : List A) (d : A) (S : Sto) : R A := match aLookT a l S with
  | some o => .ok (o.getD d) S
  | _ => .bad
def aSetI (n : Nat) (o : AO) (S : Sto) : Sto := S.set n o
def aPutK (a k v : A) (S : Sto) : R Unit := match a with
  | .ref n => match S[n]?, k.key with
    | some (.dK false kvs), some k => if kvs.length < cap then .ok () (S.set n (.dK false (aput k v kvs))) else .bad
    | _, _ => .bad
  | _ => .bad
def aPutT (a : A) (l : List A) (v : A) (S : Sto) : R Unit := match a with
  | .ref n => match S[n]?, keysA l with
    | some (.dT kvs), some k => if kvs.length < cap then .ok () (S.set n (.dT (aput k v kvs))) else .bad
    | _, _ => .bad
  | _ => .bad
def aPop (a k d : A) (S : Sto) : R A := match a with
  | .ref n => match S[n]?, k.key with
    | some (.dK false kvs), some k => match alk k kvs with
      | some v => .ok v (S.set n (.dK false (adrop k kvs)))
      | none => .ok d S
    | _, _ => .bad
  | _ => .bad
def aPop1 (a k : A) (S : Sto) : R A := match a with
  | .ref n => match S[n]?, k.key with
    | some (.dK false kvs), some k => match alk k kvs with
      | some v => .ok v (S.set n (.dK false (adrop k kvs)))
      | none => .bad
    | _, _ => .bad
  | _ => .bad
def aSetd (a k d : A) (S : Sto) : R A := match a with
  | .ref n => match S[n]?, k.key with
    | some (.dK false kvs), some k => if kvs.length < cap then match alk k kvs with
      | some v => .ok v S
      | none => .ok d (S.set n (.dK false (aput k d kvs)))
      else .bad
    | _, _ => .bad
  | _ => .bad
/-- a dict is changed -/
theorem set_dK {q : Addr} {n : Nat} {kvs kvs' : List (AK × A)} {ks' : List (Key × V)} (sr : SR K φ H S) (f : φ[n]? = some q) (e : S[n]? = some (.dK false kvs)) (h : MR K φ H kk ks' kvs') : Ext K φ H φ (upd H q (.dK ks')) ∧ SR K φ (upd H q (.dK ks')) (S.set n (.dK false kvs')) := by
  have hn : n < S.length := (List.getElem?_eq_some_iff.mp e).1
  obtain ⟨ks, h1, _⟩ := sr.at f e
  have m : mutO (H q) = true := by rw [show H q = some (.dK ks) from h1]; rfl
  exact ⟨Ext.set m, sr.set f hn m fun x => ⟨ks', upd_same, h.up x⟩⟩
theorem set_dT {q : Addr} {n : Nat} {kvs kvs' : List (List AK × A)} {ks' : List (List Key × V)} (sr : SR K φ H S) (f : φ[n]? = some q) (e : S[n]? = some (.dT kvs)) (h : MR K φ H (List.map kk) ks' kvs') : Ext K φ H φ (upd H q (.dT ks')) ∧ SR K φ (upd H q (.dT ks')) (S.set n (.dT kvs')) := by
  have hn : n < S.length := (List.getElem?_eq_some_iff.mp e).1
  obtain ⟨ks, h1, _⟩ := sr.at f e
  have m : mutO (H q) = true := by rw [h1]; rfl
  exact ⟨Ext.set m, sr.set f hn m fun x => ⟨ks', upd_same, h.up x⟩⟩
theorem set_lst {q : Addr} {n : Nat} {as as' : List A} {vs' : List V} (sr : SR K φ H S) (f : φ[n]? = some q) (e : S[n]? = some (.lst as)) (h : VRs K φ H vs' as') : Ext K φ H φ (upd H q (.lst vs')) ∧ SR K φ (upd H q (.lst vs')) (S.set n (.lst as')) := by
  have hn : n < S.length := (List.getElem?_eq_some_iff.mp e).1
  obtain ⟨ks, h1, _⟩ := sr.at f e
  have m : mutO (H q) = true := by rw [h1]; rfl
  exact ⟨Ext.set m, sr.set f hn m fun x => ⟨vs', upd_same, h.up x⟩⟩
/-- an object's field is written -/
theorem set_ins {q : Addr} {n : Nat} {C : String} {fs : List (String × A)} {f : String} {a : A} {v : V} {dx : Addr} {gs : List (Str × V)} (sr : SR K φ H S) (fq : φ[n]? = some q) (e : S[n]? = some (.ins C fs)) (h1 : H q = some (.ins (He.ga K (Str.ofString C)) dx gs)) (c : Cls K (He.ga K (Str.ofString C)))
    (na : ∀ g ∈ (fput f a fs).map (·.1), NoAttr K (He.ga K (Str.ofString C)) (Str.ofString g)) (hl : (putF (Str.ofString f) v gs).length < 999) (r1 : FR K φ H gs fs) (r : VR K φ H v a) :
    Ext K φ H φ (upd H q (.ins (He.ga K (Str.ofString C)) dx (putF (Str.ofString f) v gs))) ∧ SR K φ (upd H q (.ins (He.ga K (Str.ofString C)) dx (putF (Str.ofString f) v gs))) (S.set n (.ins C (fput f a fs))) := by
  have hn : n < S.length := (List.getElem?_eq_some_iff.mp e).1
  have m : mutO (H q) = true := by rw [h1]; rfl
  exact ⟨Ext.set m, sr.set fq hn m fun x => ⟨dx, _, upd_same, c, na, hl, Paired.mapP (r1.put r) fun _ _ z => ⟨z.1, VR.up z.2 x⟩⟩⟩
end
section
variable {X : Cx} {W : WX} {e i o f : Expr} {es : List Expr} {fe fi fo ff : AE} {fs : AA} {pos apos cpos : Pos}
/-! ### d[k] -/
theorem d_dget (hu : X.A.units + 1 < cLine) (ho : PE X o (rdE X.K W fo)) (hi : PE X i (rdE X.K W fi)) (hs : NoSl i) : PE X (.Subscript o i pos) (rdE X.K W (xOp aGet fo fi)) := by
  refine PE_mono (pe_dget hu ho hi hs) fun σ H Q ⟨φ, as, S, sr, sl, p⟩ => ?_
  refine rd_step sr sl p fun φ1 x a S1 H1 x1 sr1 sl1 ra p1 => ?_
  refine rd_step sr1 sl1 p1 fun φ2 y b S2 H2 x2 sr2 sl2 rb p2 => ?_
  unfold aGet at p2
  split at p2
  · rename_i e1
    obtain ⟨q, u, ev, dg, ou⟩ := look_of sr2 (VR.up ra x2) rb e1
    obtain ⟨v, rfl, rv⟩ := oV_some ou
    exact ⟨q, v, ev, dg, p2.ok sr2 rv⟩
  · exact p2.elim
/-- the key a tuple that is written there -/
def aCapL (l : List A) (r : R A) : R A := if l.length ≤ cap then r else .bad
def xGetT (fo : AE) (fs : AA) : AE := fun as S => (fo as S).bnd fun a S1 => (fs as S1).bnd fun l S2 => aCapL l (aGetT a l S2)
theorem d_dgetT {n} {tp : Pos} (hu : X.A.units + 1 < cLine) (ho : PE X o (rdE X.K W fo)) (hi : PA X es (rdA X.K W fs)) (hs : NoSl (.Tuple es n tp)) : PE X (.Subscript o (.Tuple es n tp) pos) (rdE X.K W (xGetT fo fs)) := by
  refine PE_mono (pe_dget hu ho (pe_tup hi) hs) fun σ H Q ⟨φ, as, S, sr, sl, p⟩ => ?_
  refine rd_step sr sl p fun φ1 x a S1 H1 x1 sr1 sl1 ra p1 => ?_
  refine rd_step sr1 sl1 p1 fun φ2 y b S2 H2 x2 sr2 sl2 rb p2 => ?_
  unfold aCapL at p2
  split at p2
  · rename_i hl
    refine ⟨by rw [rb.length]; exact cap_size hl, fun q hq => ?_⟩
    have x3 : Ext X.K φ2 H2 φ2 (upd H2 q (.tup y)) := Ext.new hq
    have sr3 := sr2.new (o := .tup y) hq
    unfold aGetT at p2
    split at p2
    · rename_i e1
      obtain ⟨d, u, ev, dg, ou⟩ := lookT_of sr3 (VR.up (VR.up ra x2) x3) (rb.up x3) upd_same e1
      obtain ⟨v, rfl, rv⟩ := oV_some ou
      exact ⟨d, v, ev, dg, p2.okX x3 sr3 rv⟩
    · exact p2.elim
  · exact p2.elim
/-! ### d.get(k), d.get(k, x) -/
def xGet1 (fo fi : AE) : AE := fun as S => (fo as S).bnd fun a S1 => (aDic a S1).bnd fun a S2 => (fi as S2).bnd fun k S3 => aGetD a k .non S3
def xGet2 (fo fi ff : AE) : AE := fun as S => (fo as S).bnd fun a S1 => (aDic a S1).bnd fun a S2 => (fi as S2).bnd fun k S3 => (ff as S3).bnd fun d S4 => aGetD a k d S4
def xGet1T (fo : AE) (fs : AA) : AE := fun as S => (fo as S).bnd fun a S1 => (aDic a S1).bnd fun a S2 => (fs as S2).bnd fun l S3 => aCapL l (aGetDT a l .non S3)
theorem d_dget1 (hu : X.A.units + 1 < cLine) (ho : PE X o (rdE X.K W fo)) (hi : PE X i (rdE X.K W fi)) (m : M1 X o "get" apos i cpos) : PE X (.Call (.Attribute o "get" apos) [i] [] cpos) (rdE X.K W (xGet1 fo fi)) := by
  refine PE_mono (pe_dget1 hu ho hi m) fun σ H Q ⟨φ, as, S, sr, sl, p⟩ => ?_
  refine rd_step sr sl p fun φ1 x a S1 H1 x1 sr1 sl1 ra p1 => ?_
  obtain ⟨q, rfl, hd, p1⟩ := dic_of sr1 ra p1
  refine ⟨q, rfl, hd, ?_⟩
  refine rd_step sr1 sl1 p1 fun φ2 y b S2 H2 x2 sr2 sl2 rb p2 => ?_
  unfold aGetD at p2
  split at p2
  · rename_i e1
    obtain ⟨q', u, ev, dg, ou⟩ := look_of sr2 (VR.up ra x2) rb e1
    cases ev
    exact ⟨u, dg, p2.ok sr2 (oV_getD ou .non)⟩
  · exact p2.elim
theorem d_dget2 (hu : X.A.units + 1 < cLine) (ho : PE X o (rdE X.K W fo)) (hi : PE X i (rdE X.K W fi)) (hf : PE X f (rdE X.K W ff)) (m : M2 X o "get" apos i f cpos) : PE X (.Call (.Attribute o "get" apos) [i, f] [] cpos) (rdE X.K W (xGet2 fo fi ff)) := by
  refine PE_mono (pe_dget2 hu ho hi hf m) fun σ H Q ⟨φ, as, S, sr, sl, p⟩ => ?_
  refine rd_step sr sl p fun φ1 x a S1 H1 x1 sr1 sl1 ra p1 => ?_
  obtain ⟨q, rfl, hd, p1⟩ := dic_of sr1 ra p1
  refine ⟨q, rfl, hd, ?_⟩
  refine rd_step sr1 sl1 p1 fun φ2 y b S2 H2 x2 sr2 sl2 rb p2 => ?_
  refine rd_step sr2 sl2 p2 fun φ3 z c S3 H3 x3 sr3 sl3 rc p3 => ?_
  unfold aGetD at p3
  split at p3
  · rename_i e1
    obtain ⟨q', u, ev, dg, ou⟩ := look_of sr3 (VR.up (VR.up ra x2) x3) (VR.up rb x3) e1
    cases ev
    exact ⟨u, dg, p3.ok sr3 (oV_getD ou rc)⟩
  · exact p3.elim
theorem d_dget1T {n} {tp : Pos} (hu : X.A.units + 1 < cLine) (ho : PE X o (rdE X.K W fo)) (hi : PA X es (rdA X.K W fs)) (m : M1 X o "get" apos (.Tuple es n tp) cpos) : PE X (.Call (.Attribute o "get" apos) [.Tuple es n tp] [] cpos) (rdE X.K W (xGet1T fo fs)) := by
  refine PE_mono (pe_dget1 hu ho (pe_tup hi) m) fun σ H Q ⟨φ, as, S, sr, sl, p⟩ => ?_
  refine rd_step sr sl p fun φ1 x a S1 H1 x1 sr1 sl1 ra p1 => ?_
  obtain ⟨q, rfl, hd, p1⟩ := dic_of sr1 ra p1
  refine ⟨q, rfl, hd, ?_⟩
  refine rd_step sr1 sl1 p1 fun φ2 y b S2 H2 x2 sr2 sl2 rb p2 => ?_
  unfold aCapL at p2
  split at p2
  · rename_i hl
    refine ⟨by rw [rb.length]; exact cap_size hl, fun q2 hq => ?_⟩
    have x3 : Ext X.K φ2 H2 φ2 (upd H2 q2 (.tup y)) := Ext.new hq
    have sr3 := sr2.new (o := .tup y) hq
    unfold aGetDT at p2
    split at p2
    · rename_i e1
      obtain ⟨d, u, ev, dg, ou⟩ := lookT_of sr3 (VR.up (VR.up ra x2) x3) (rb.up x3) upd_same e1
      cases ev
      exact ⟨u, dg, p2.okX x3 sr3 (oV_getD ou .non)⟩
    · exact p2.elim
  · exact p2.elim
/-! ### k in d -/
def xIn (fi fo : AE) : AE := fun as S => (fi as S).bnd fun k S1 => (fo as S1).bnd fun a S2 => aHas id a k S2
def xNi (fi fo : AE) : AE := fun as S => (fi as S).bnd fun k S1 => (fo as S1).bnd fun a S2 => aHas not a k S2
theorem has_of {K : PySem.W.Frag} {φ : List Addr} {H : Hp} {S : Sto} {g : Bool → Bool} {a k : A} {v w : V} {Q : VK} {Wx : Hp → Prop} (sr : SR K φ H S) (r : VR K φ H v a) (rk : VR K φ H w k) (p : Post (VR K) K φ H (aHas g a k S) Q Wx) :
    (∃ q o, v = .ref q ∧ DGet H q w o ∧ Q (.bl (g o.isSome)) H) ∨ ∃ q kvs, v = .ref q ∧ w = .non ∧ Rd H q (.dK kvs) ∧ Q (.bl (g false)) H := by
  unfold aHas at p
  split at p
  · split at p
    · obtain ⟨q1, rfl, f1⟩ := r.refOf
      split at p
      · rename_i e1
        obtain ⟨ks, h1, _⟩ := dK_rd (sr.at f1 e1)
        cases rk
        exact .inr ⟨q1, ks, rfl, rfl, h1, p.ok sr (.bl _)⟩
      · exact p.elim
    · exact p.elim
  · split at p
    · rename_i e1
      obtain ⟨q, u, ev, dg, ou⟩ := look_of sr r rk e1
      refine .inl ⟨q, u, ev, dg, ?_⟩
      rw [oV_isSome ou]
      exact p.ok sr (.bl _)
    · exact p.elim
theorem c_din (hu : X.A.units + 1 < cLine) (hi : PE X i (rdE X.K W fi)) (ho : PE X o (rdE X.K W fo)) : PC X .In i o (rdE X.K W (xIn fi fo)) := by
  refine PC_mono (pc_dinN hu hi ho) fun σ H Q ⟨φ, as, S, sr, sl, p⟩ => ?_
  refine rd_step sr sl p fun φ1 x a S1 H1 x1 sr1 sl1 ra p1 => ?_
  refine rd_step sr1 sl1 p1 fun φ2 y b S2 H2 x2 sr2 sl2 rb p2 => ?_
  exact has_of sr2 rb (VR.up ra x2) p2
theorem c_dni (hu : X.A.units + 1 < cLine) (hi : PE X i (rdE X.K W fi)) (ho : PE X o (rdE X.K W fo)) : PC X .NotIn i o (rdE X.K W (xNi fi fo)) := by
  refine PC_mono (pc_dnotinN hu hi ho) fun σ H Q ⟨φ, as, S, sr, sl, p⟩ => ?_
  refine rd_step sr sl p fun φ1 x a S1 H1 x1 sr1 sl1 ra p1 => ?_
  refine rd_step sr1 sl1 p1 fun φ2 y b S2 H2 x2 sr2 sl2 rb p2 => ?_
  exact has_of sr2 rb (VR.up ra x2) p2
/-! ### pop, setdefault -/
def xPop1 (fo fi : AE) : AE := fun as S => (fo as S).bnd fun a S1 => (aDic a S1).bnd fun a S2 => (fi as S2).bnd fun k S3 => aPop1 a k S3
def xPop2 (fo fi ff : AE) : AE := fun as S => (fo as S).bnd fun a S1 => (aDic a S1).bnd fun a S2 => (fi as S2).bnd fun k S3 => (ff as S3).bnd fun d S4 => aPop a k d S4
def xSetd (fo fi ff : AE) : AE := fun as S => (fo as S).bnd fun a S1 => (aDic a S1).bnd fun a S2 => (fi as S2).bnd fun k S3 => (ff as S3).bnd fun d S4 => aSetd a k d S4
theorem d_dpop1 (ho : PE X o (rdE X.K W fo)) (hi : PE X i (rdE X.K W fi)) (m : M1 X o "pop" apos i cpos) : PE X (.Call (.Attribute o "pop" apos) [i] [] cpos) (rdE X.K W (xPop1 fo fi)) := by
  refine PE_mono (pe_dpop1 ho hi m) fun σ H Q ⟨φ, as, S, sr, sl, p⟩ => ?_
  refine rd_step sr sl p fun φ1 x a S1 H1 x1 sr1 sl1 ra p1 => ?_
  obtain ⟨q, rfl, hd, p1⟩ := dic_of sr1 ra p1
  refine ⟨q, rfl, hd, ?_⟩
  refine rd_step sr1 sl1 p1 fun φ2 y b S2 H2 x2 sr2 sl2 rb p2 => ?_
  unfold aPop1 at p2
  split at p2
  · obtain ⟨q1, eq, f1⟩ := (VR.up ra x2).refOf
    cases eq
    split at p2
    · rename_i e1 e2
      obtain ⟨ks, h1, r1⟩ := sr2.at f1 e1
      split at p2
      · rename_i v e3
        have ou := MR.get (g := kk) kkI r1 (k := by assumption)
        rw [e3] at ou
        obtain ⟨w, ew, rw'⟩ := oV_some ou
        obtain ⟨x4, sr4⟩ := set_dK sr2 f1 e1 (MR.drop (g := kk) kkI r1 (by assumption))
        exact ⟨ks, _, w, h1, key_V rb e2, ew, p2.okX x4 sr4 (VR.up rw' x4)⟩
      · exact p2.elim
    · exact p2.elim
  · exact p2.elim
theorem d_dpop2 (ho : PE X o (rdE X.K W fo)) (hi : PE X i (rdE X.K W fi)) (hf : PE X f (rdE X.K W ff)) (m : M2 X o "pop" apos i f cpos) : PE X (.Call (.Attribute o "pop" apos) [i, f] [] cpos) (rdE X.K W (xPop2 fo fi ff)) := by
  refine PE_mono (pe_dpop2 ho hi hf m) fun σ H Q ⟨φ, as, S, sr, sl, p⟩ => ?_
  refine rd_step sr sl p fun φ1 x a S1 H1 x1 sr1 sl1 ra p1 => ?_
  obtain ⟨q, rfl, hd, p1⟩ := dic_of sr1 ra p1
  refine ⟨q, rfl, hd, ?_⟩
  refine rd_step sr1 sl1 p1 fun φ2 y b S2 H2 x2 sr2 sl2 rb p2 => ?_
  refine rd_step sr2 sl2 p2 fun φ3 z c S3 H3 x3 sr3 sl3 rc p3 => ?_
  unfold aPop at p3
  split at p3
  · obtain ⟨q1, eq, f1⟩ := (VR.up (VR.up ra x2) x3).refOf
    cases eq
    split at p3
    · rename_i kvs k e1 e2
      obtain ⟨ks, h1, r1⟩ := sr3.at f1 e1
      have ou := MR.get (g := kk) kkI r1 k
      refine ⟨ks, kk k, h1, key_V (VR.up rb x3) e2, fun w ew => ?_, fun ew => ?_⟩
      · rw [ew] at ou
        cases e3 : alk k kvs with
        | none => rw [e3] at ou; exact ou.elim
        | some v =>
          rw [e3] at ou p3
          obtain ⟨x4, sr4⟩ := set_dK sr3 f1 e1 (MR.drop (g := kk) kkI r1 k)
          exact p3.okX x4 sr4 (VR.up (show VR X.K φ3 H3 w v from ou) x4)
      · rw [ew] at ou
        cases e3 : alk k kvs with
        | none => rw [e3] at p3; exact p3.ok sr3 rc
        | some v => rw [e3] at ou; exact ou.elim
    · exact p3.elim
  · exact p3.elim
theorem d_dsetd (ho : PE X o (rdE X.K W fo)) (hi : PE X i (rdE X.K W fi)) (hf : PE X f (rdE X.K W ff)) (m : M2 X o "setdefault" apos i f cpos) : PE X (.Call (.Attribute o "setdefault" apos) [i, f] [] cpos) (rdE X.K W (xSetd fo fi ff)) := by
  refine PE_mono (pe_dsetd ho hi hf m) fun σ H Q ⟨φ, as, S, sr, sl, p⟩ => ?_
  refine rd_step sr sl p fun φ1 x a S1 H1 x1 sr1 sl1 ra p1 => ?_
  obtain ⟨q, rfl, hd, p1⟩ := dic_of sr1 ra p1
  refine ⟨q, rfl, hd, ?_⟩
  refine rd_step sr1 sl1 p1 fun φ2 y b S2 H2 x2 sr2 sl2 rb p2 => ?_
  refine rd_step sr2 sl2 p2 fun φ3 z c S3 H3 x3 sr3 sl3 rc p3 => ?_
  unfold aSetd at p3
  split at p3
  · obtain ⟨q1, eq, f1⟩ := (VR.up (VR.up ra x2) x3).refOf
    cases eq
    split at p3
    · rename_i kvs k e1 e2
      split at p3
      · rename_i hl
        obtain ⟨ks, h1, r1⟩ := sr3.at f1 e1
        have ou := MR.get (g := kk) kkI r1 k
        refine ⟨ks, kk k, h1, key_V (VR.up rb x3) e2, by rw [Paired.length r1]; exact cap_lt hl, fun w ew => ?_, fun ew => ?_⟩
        · rw [ew] at ou
          cases e3 : alk k kvs with
          | none => rw [e3] at ou; exact ou.elim
          | some v =>
            rw [e3] at ou p3
            exact p3.ok sr3 (show VR X.K φ3 H3 w v from ou)
        · rw [ew] at ou
          cases e3 : alk k kvs with
          | none =>
            rw [e3] at p3
            obtain ⟨x4, sr4⟩ := set_dK sr3 f1 e1 (MR.put (g := kk) kkI r1 k rc)
            exact p3.okX x4 sr4 (VR.up rc x4)
          | some v => rw [e3] at ou; exact ou.elim
      · exact p3.elim
    · exact p3.elim
  · exact p3.elim
/-! ### {}, {k: v, ..} -/
def xDNewK : AE := fun _ S => .ok (.ref S.length) (S ++ [.dK false []])
def xDNewT : AE := fun _ S => .ok (.ref S.length) (S ++ [.dT []])
theorem d_dnewK : PE X (.Dict [] [] pos) (rdE X.K W xDNewK) := PE_mono pe_dnewK fun σ H Q ⟨φ, as, S, sr, sl, p⟩ q hq => p.okX (Ext.push hq) (sr.push hq ⟨[], upd_same, .nil⟩) (.ref (at_new sr q))
theorem d_dnewT : PE X (.Dict [] [] pos) (rdE X.K W xDNewT) := PE_mono pe_dnewT fun σ H Q ⟨φ, as, S, sr, sl, p⟩ q hq => p.okX (Ext.push hq) (sr.push hq ⟨[], upd_same, .nil⟩) (.ref (at_new sr q))
def xVals : List (AK × AE) → Slo → Sto → R (List (AK × A))
  | [], _, S => .ok [] S
  | (k, f) :: r, as, S => (f as S).bnd fun a S1 => (xVals r as S1).bnd fun l S2 => .ok ((k, a) :: l) S2
def mergeA (kvs more : List (AK × A)) : List (AK × A) := more.foldl (fun acc kv => aput kv.1 kv.2 acc) kvs
def aDisp (n : Nat) (l : List (AK × A)) (S : Sto) : R A := match S[n]? with
  | some (.dK false []) => if l.length ≤ 15 then .ok (.ref n) (S.set n (.dK false (mergeA [] l))) else .bad
  | _ => .bad
def xDisp (kfs : List (AK × AE)) : AE := fun as S => (xVals kfs as (S ++ [.dK false []])).bnd (aDisp S.length)
/-- the written pairs -/
def trsOf (K : PySem.W.Frag) (W : WX) (kfs : List (AK × AE)) : List (TE × TE) := kfs.map fun kf => (tC (kV (kk kf.1)), rdE K W kf.2)
theorem MR.merge {K : PySem.W.Frag} {φ : List Addr} {H : Hp} : ∀ {more' : List (Key × V)} {more : List (AK × A)} {ks : List (Key × V)} {kvs : List (AK × A)}, MR K φ H kk more' more → MR K φ H kk ks kvs → MR K φ H kk (mergeK ks more') (mergeA kvs more) := by
  intro more' more ks kvs h
  unfold MR at h
  induction h generalizing ks kvs with
  | nil => intro q; exact q
  | @cons p q ps qs r t ih =>
    intro h2
    obtain ⟨j, v⟩ := p
    obtain ⟨j', a⟩ := q
    obtain ⟨e1, e2⟩ := r
    simp only at e1 e2
    subst e1
    exact ih (MR.put (g := kk) kkI h2 j' e2)
theorem pairs_rd {K : PySem.W.Frag} {σ : L2.St} {as : Slo} {Q1 : List (V × V) → Hp → Prop} : ∀ (kfs : List (AK × AE)) {φ : List Addr} {H : Hp} {S : Sto} {α β : Type} {Rel : List Addr → Hp → β → α → Prop} {g : List (AK × A) → Sto → R α} {Q : β → Hp → Prop}, SR K φ H S → SL K φ H σ as → Post Rel K φ H ((xVals kfs as S).bnd g) Q (fun H' => W (NV K) none σ H') →
    (∀ φ' H' S' l (ps : List (Key × V)), Ext K φ H φ' H' → SR K φ' H' S' → MR K φ' H' kk ps l → Post Rel K φ' H' (g l S') Q (fun H' => W (NV K) none σ H') → Q1 (ps.map fun kv => (kV kv.1, kv.2)) H') → tPairs (trsOf K W kfs) σ H Q1
  | [], φ, H, S, α, β, Rel, g, Q, sr, sl, p, k => k φ H S [] [] Ext.refl sr .nil p
  | (kx, f) :: r, φ, H, S, α, β, Rel, g, Q, sr, sl, p, k => by
    have p' : Post Rel K φ H ((f as S).bnd fun a S1 => (xVals r as S1).bnd fun l S2 => g ((kx, a) :: l) S2) Q (fun H' => W (NV K) none σ H') := by
      unfold xVals at p
      cases q1 : f as S with
      | exc S1 => rw [q1] at p; exact p
      | bad => rw [q1] at p; exact p
      | ok a S1 =>
        rw [q1] at p
        cases q2 : xVals r as S1 with
        | exc S2 => simp only [R.bnd, q2] at p ⊢; exact p
        | bad =>
          simp only [R.bnd, q2] at p
          exact p.elim
        | ok l S2 => simp only [R.bnd, q2] at p ⊢; exact p
    show tPairs ((tC (kV (kk kx)), rdE K W f) :: trsOf K W r) σ H Q1
    refine rd_step sr sl p' fun φ1 x a S1 H1 x1 sr1 sl1 ra p1 => ?_
    refine pairs_rd r sr1 sl1 p1 fun φ2 H2 S2 l ps x2 sr2 rp p2 => ?_
    exact k φ2 H2 S2 _ ((kk kx, x) :: ps) (x1.trans x2) sr2 (.cons ⟨rfl, VR.up ra x2⟩ rp) p2
theorem d_disp {keys : List (Option Expr)} {values : List Expr} {kfs : List (AK × AE)} (h : PPs X pos keys values (trsOf X.K W kfs)) (hall : keys.all (·.isSome) = true) (hl : keys.length = values.length) (h0 : keys ≠ []) (h15 : keys.length ≤ 15) : PE X (.Dict keys values pos) (rdE X.K W (xDisp kfs)) := by
  refine PE_mono (pe_disp h hall hl h0 h15) fun σ H Q ⟨φ, as, S, sr, sl, p⟩ q hq => ?_
  have x1 := Ext.push (K := X.K) (φ := φ) (ho := .dK []) hq
  have sr1 := sr.push (o := .dK false []) (ho := .dK []) hq ⟨[], upd_same, .nil⟩
  refine pairs_rd kfs sr1 (sl.up x1) (Post.up p x1) fun φ2 H2 S2 l ps x2 sr2 rp p2 => ?_
  unfold aDisp at p2
  split at p2
  · rename_i e1
    split at p2
    · rename_i c
      have f2 := pre_get x2.pre (at_new sr q)
      obtain ⟨ks, h1, r1⟩ := sr2.at f2 e1
      cases r1
      obtain ⟨x3, sr3⟩ := set_dK sr2 f2 e1 (MR.merge rp (ks := []) (kvs := []) .nil)
      exact ⟨h1, ps, rfl, by rw [Paired.length rp]; exact c, p2.okX x3 sr3 (.ref f2)⟩
    · exact p2.elim
  · exact p2.elim
/-! ### dict([(k, v), ..]) -/
def pairsA : List A → Option (List (AK × A))
  | [] => some []
  | .tup [k, v] :: r => match k.key, pairsA r with
    | some k, some l => some ((k, v) :: l)
    | _, _ => none
  | _ => none
def bDict (as : List A) (S : Sto) : R A := match as with
  | [.ref n] => match S[n]? with
    | some (.lst xs) => match pairsA xs with
      | some kvs => .ok (.ref S.length) (S ++ [.dK false (mergeA [] kvs)])
      | none => .bad
    | _ => .bad
  | _ => .bad
def rDictM (K : PySem.W.Frag) : List V → Hp → VK → Prop := fun xs H Q => ∃ (a : Addr) (ps : List Addr) (kvs : List (Key × V)), xs = [.ref a] ∧ SqL K H a (ps.map V.ref) ∧ Paired (fun p kv => SqT K H p [kV kv.1, kv.2]) ps kvs ∧
    ∀ p, H p = none → Q (.ref p) (upd H p (.dK (mergeK [] kvs)))
theorem cr_dictM (hc : X.calm = true) : CallR X (.type "dict") (rDictM X.K) := call_dictP hc
theorem pairsA_of {K : PySem.W.Frag} {φ : List Addr} {H : Hp} : ∀ {as : List A} {kvs : List (AK × A)} {xs : List V}, VRs K φ H xs as → pairsA as = some kvs → ∃ (ps : List Addr) (ks : List (Key × V)), xs = ps.map V.ref ∧ Paired (fun p kv => SqT K H p [kV kv.1, kv.2]) ps ks ∧ MR K φ H kk ks kvs := by
  intro as
  induction as with
  | nil => intro kvs xs r e; cases r; cases e; exact ⟨[], [], rfl, .nil, .nil⟩
  | cons a as ih =>
    intro kvs xs r e
    cases r with
    | cons r t =>
      have ea : ∃ k v, a = .tup [k, v] := by
        cases a with
        | tup l => match l with
          | [k, v] => exact ⟨k, v, rfl⟩
          | [] => cases e
          | [_] => cases e
          | _ :: _ :: _ :: _ => cases e
        | _ => cases e
      obtain ⟨k, v, rfl⟩ := ea
      have e : (match k.key, pairsA as with
        | some k, some l => some ((k, v) :: l)
        | _, _ => none) = some kvs := e
      split at e
      · rename_i k' l e1 e2
        cases e
        obtain ⟨ps, ks, rfl, h1, h2⟩ := ih t e2
        obtain ⟨q, ys, rfl, s, rr⟩ := r.tupOf
        obtain ⟨y1, y2, rfl, r1, r2⟩ := rr.twoOf
        rw [key_V r1 e1] at s
        exact ⟨q :: ps, (kk k', y2) :: ks, rfl, .cons s h1, .cons ⟨rfl, r2⟩ h2⟩
      · cases e
theorem k_dict {K : PySem.W.Frag} : CallA K (rDictM K) bDict := by
  intro φ H S xs as Q Wx sr ra p
  unfold bDict at p
  split at p
  · obtain ⟨x, rfl, r⟩ := ra.oneOf
    obtain ⟨q1, rfl, f1⟩ := r.refOf
    split at p
    · rename_i e1
      obtain ⟨ys, h1, r1⟩ := sr.at f1 e1
      split at p
      · rename_i e2
        obtain ⟨ps, ks, rfl, h2, h3⟩ := pairsA_of r1 e2
        refine ⟨q1, ps, ks, rfl, sqL h1, h2, fun q hq => ?_⟩
        exact p.okX (Ext.push hq) (sr.push hq ⟨_, upd_same, (MR.merge h3 (ks := []) (kvs := []) .nil).up (Ext.push hq)⟩) (.ref (at_new sr q))
      · exact p.elim
    · exact p.elim
  · exact p.elim
/-! ### xs.append(e) -/
def aIsL (a : A) (S : Sto) : R A := match a with
  | .ref n => match S[n]? with
    | some (.lst _) => .ok a S
    | _ => .bad
  | _ => .bad
def aApp (a : A) (l : List A) (S : Sto) : R A := match a, l with
  | .ref n, [y] => match S[n]? with
    | some (.lst xs) => if xs.length < cap then .ok .non (S.set n (.lst (xs ++ [y]))) else .bad
    | _ => .bad
  | _, _ => .bad
def xApp (fo : AE) (fs : AA) : AE := fun as S => (fo as S).bnd fun a S1 => (aIsL a S1).bnd fun a S2 => (fs as S2).bnd fun l S3 => aApp a l S3
theorem d_app (ho : PE X o (rdE X.K W fo)) (ha : PA X (e :: es) (rdA X.K W fs)) (hbase : attributeBase o "append" X.env (eval o X.env) = eval o X.env := by rfl)
    (hfew : ((backTo cpos (starEach (e :: es) X.env)).all (fun x => !x.1) && (backToKw cpos (keywordEach [] X.env)).all (fun x => x.1.isSome)
      && decide ((e :: es).length + ([] : List Keyword).length + (if ([] : List Keyword).isEmpty then 0 else 1) < 30)) = true := by rfl)
    (hline : (apos.endLine == cpos.line) = true := by rfl) (hs : starEach (e :: es) X.env = (false, eval e X.env) :: starEach es X.env := by rfl) (hplain : (backTo cpos (starEach es X.env)).any (·.1) = false := by rfl) :
    PE X (.Call (.Attribute o "append" apos) (e :: es) [] cpos) (rdE X.K W (xApp fo fs)) := by
  refine PE_mono (pe_bm PySem.F.plainAttrs_list PySem.F.slot_list_append PySem.F.type_list_append mt_append ho ha hbase hfew hline hs hplain) fun σ H Q ⟨φ, as, S, sr, sl, p⟩ => ?_
  refine rd_step sr sl p fun φ1 x a S1 H1 x1 sr1 sl1 ra p1 => ?_
  unfold aIsL at p1
  split at p1
  · obtain ⟨q1, rfl, f1⟩ := ra.refOf
    split at p1
    · rename_i e1
      obtain ⟨ys, h1, r1⟩ := sr1.at f1 e1
      refine ⟨.inl ⟨rfl, ys, sqL h1⟩, ?_⟩
      refine rd_step sr1 sl1 p1 fun φ2 zs l S2 H2 x2 sr2 sl2 rl p2 => ?_
      unfold aApp at p2
      split at p2
      · rename_i eq
        cases eq
        obtain ⟨z, rfl, rz⟩ := rl.oneOf
        split at p2
        · rename_i e2
          split at p2
          · rename_i c
            have f2 := pre_get x2.pre f1
            obtain ⟨ws, h2, r2⟩ := sr2.at f2 e2
            obtain ⟨x3, sr3⟩ := set_lst sr2 f2 e2 (r2.app (VRs.one rz))
            exact ⟨q1, ws, z, rfl, rfl, h2, by rw [r2.length]; exact cap_lt c, p2.okX x3 sr3 .non⟩
          · exact p2.elim
        · exact p2.elim
      · exact p2.elim
    · exact p1.elim
  · exact p1.elim
end
end RA
/-! RA: statements, targets. -/
namespace RA
open PySem PySem.Spec PyProof.Rows L2 Rb
inductive O where
  | nx (as : Slo) (s : Sto) | rt (a : A) (s : Sto) | bk (as : Slo) (s : Sto) | ct (as : Slo) (s : Sto) | exc (as : Slo) (s : Sto) | bad
abbrev AY := Slo → Sto → O
def PostS (K : PySem.W.Frag) (φ : List Addr) (H : Hp) (o : O) (W : WX) (D : Ends) : Prop := match o with
  | .nx as S' => ∀ φ' H' σ', Ext K φ H φ' H' → SR K φ' H' S' → SL K φ' H' σ' as → D.nx σ' H'
  | .rt a S' => ∀ φ' H' v, Ext K φ H φ' H' → SR K φ' H' S' → VR K φ' H' v a → D.rt v H'
  | .bk as S' => ∀ φ' H' σ', Ext K φ H φ' H' → SR K φ' H' S' → SL K φ' H' σ' as → D.bk σ' H'
  | .ct as S' => ∀ φ' H' σ', Ext K φ H φ' H' → SR K φ' H' S' → SL K φ' H' σ' as → D.ct σ' H'
  | .exc as S' => ∀ φ' H' σ', Ext K φ H φ' H' → SR K φ' H' S' → SL K φ' H' σ' as → W (NV K) none σ' H'
  | .bad => False
def rdS (K : PySem.W.Frag) (W : WX) (f : AY) : TS := fun D σ H => ∃ φ as S, SR K φ H S ∧ SL K φ H σ as ∧ PostS K φ H (f as S) W D
def sbd {α : Type} (r : R α) (as : Slo) (g : α → Sto → O) : O := match r with
  | .ok a S => g a S
  | .exc S => .exc as S
  | .bad => .bad
section
variable {K : PySem.W.Frag} {φ φ1 : List Addr} {H H1 : Hp} {S : Sto} {σ : L2.St} {as : Slo} {W : WX} {D : Ends} {o : O}
theorem PostS.up (p : PostS K φ H o W D) (x : Ext K φ H φ1 H1) : PostS K φ1 H1 o W D := by
  cases o with
  | nx as S => exact fun φ' H' v e => p φ' H' v (x.trans e)
  | rt a S => exact fun φ' H' v e => p φ' H' v (x.trans e)
  | bk as S => exact fun φ' H' v e => p φ' H' v (x.trans e)
  | ct as S => exact fun φ' H' v e => p φ' H' v (x.trans e)
  | exc as S => exact fun φ' H' v e => p φ' H' v (x.trans e)
  | bad => exact p
theorem st_step {α β : Type} {Rel : List Addr → Hp → β → α → Prop} {fa : Slo → Sto → R α} {g : α → Sto → O} {Q1 : β → Hp → Prop} (sr : SR K φ H S) (sl : SL K φ H σ as) (p : PostS K φ H (sbd (fa as S) as g) W D)
    (k : ∀ φ' x a S1 H1, Ext K φ H φ' H1 → SR K φ' H1 S1 → SL K φ' H1 σ as → Rel φ' H1 x a → PostS K φ' H1 (g a S1) W D → Q1 x H1) : rdX K Rel W fa σ H Q1 := by
  refine ⟨φ, as, S, sr, sl, ?_⟩
  cases e : fa as S with
  | ok a S1 =>
    rw [e] at p
    exact fun φ' H' v x sr' r => k φ' v a S1 H' x sr' (sl.up x) r (PostS.up p x)
  | exc S1 =>
    rw [e] at p
    exact fun φ' H' x sr' => p φ' H' σ x sr' (sl.up x)
  | bad => rw [e] at p; exact p
theorem PostS.nxt (p : PostS K φ H (.nx as S) W D) (sr : SR K φ H S) (sl : SL K φ H σ as) : D.nx σ H := p φ H σ Ext.refl sr sl
end
section
variable {X : Cx} {W : WX} {st : Stmt} {rest : List Stmt} {e o i c value : Expr} {es : List Expr} {fe fo fi fv : AE} {fs : AA} {ft : AT} {f g : AY} {pos pos' : Pos}
def ySeq (f g : AY) : AY := fun as S => match f as S with
  | .nx as' S' => g as' S'
  | o => o
theorem y_nil : PSs X [] (rdS X.K W fun as S => .nx as S) := PSs_mono pss_nil fun D σ H ⟨φ, as, S, sr, sl, p⟩ => p.nxt sr sl
theorem y_one (h : PS X st (rdS X.K W f)) : PSs X [st] (rdS X.K W f) := pss_one h
theorem y_cons (h : PS X st (rdS X.K W f)) (k : PSs X rest (rdS X.K W g)) : PSs X (st :: rest) (rdS X.K W (ySeq f g)) := by
  refine PSs_mono (pss_cons h k) fun D σ H ⟨φ, as, S, sr, sl, p⟩ => ?_
  refine ⟨φ, as, S, sr, sl, ?_⟩
  unfold ySeq at p
  cases q : f as S with
  | nx as' S' =>
    rw [q] at p
    exact fun φ' H' σ' x sr' sl' => ⟨φ', as', S', sr', sl', PostS.up p x⟩
  | rt a S' => rw [q] at p; exact p
  | bk a S' => rw [q] at p; exact p
  | ct a S' => rw [q] at p; exact p
  | exc a S' => rw [q] at p; exact p
  | bad => rw [q] at p; exact p
def yNext : AY := fun as S => .nx as S
theorem y_pass : PS X (.Pass pos) (rdS X.K W yNext) := PS_mono ps_pass fun D σ H ⟨φ, as, S, sr, sl, p⟩ => p.nxt sr sl
theorem y_doc {x j pos pos'} : PS X (.Expr (.Constant (.str x) j pos) pos') (rdS X.K W yNext) := PS_mono ps_doc fun D σ H ⟨φ, as, S, sr, sl, p⟩ => p.nxt sr sl
def yBreak : AY := fun as S => .bk as S
def yCont : AY := fun as S => .ct as S
theorem y_break : PS X (.Break pos) (rdS X.K W yBreak) := PS_mono ps_break fun D σ H ⟨φ, as, S, sr, sl, p⟩ => p φ H σ Ext.refl sr sl
theorem y_cont : PS X (.Continue pos) (rdS X.K W yCont) := PS_mono ps_continue fun D σ H ⟨φ, as, S, sr, sl, p⟩ => p φ H σ Ext.refl sr sl
def yDrop (fe : AE) : AY := fun as S => sbd (fe as S) as fun _ S1 => .nx as S1
theorem y_drop (he : PE X e (rdE X.K W fe)) (hs : swapsWith e none pos.line X.env = pure false := by rfl) : PS X (.Expr e pos) (rdS X.K W (yDrop fe)) := by
  refine PS_mono (ps_expr he hs) fun D σ H ⟨φ, as, S, sr, sl, p⟩ => ?_
  exact st_step sr sl p fun φ1 x a S1 H1 x1 sr1 sl1 ra p1 => p1.nxt sr1 sl1
def yRet (fe : AE) : AY := fun as S => sbd (fe as S) as fun a S1 => .rt a S1
theorem y_ret (he : PE X e (rdE X.K W fe)) : PS X (.Return (some e) pos) (rdS X.K W (yRet fe)) := by
  refine PS_mono (ps_ret he) fun D σ H ⟨φ, as, S, sr, sl, p⟩ => ?_
  exact st_step sr sl p fun φ1 x a S1 H1 x1 sr1 sl1 ra p1 => p1 φ1 H1 x Ext.refl sr1 ra
def yRetN : AY := fun _ S => .rt .non S
theorem y_retN : PS X (.Return none pos) (rdS X.K W yRetN) := PS_mono ps_retN fun D σ H ⟨φ, as, S, sr, sl, p⟩ => p φ H .non Ext.refl sr .non
def yIf (ft : AT) (f g : AY) : AY := fun as S => sbd (ft as S) as fun b S1 => if b = true then f as S1 else g as S1
theorem y_if {a b : List Stmt} (hc : PT X c (rdT X.K W ft)) (ha : PSs X a (rdS X.K W f)) (hb : PSs X b (rdS X.K W g)) : PS X (.If c a b pos) (rdS X.K W (yIf ft f g)) := by
  refine PS_mono (ps_if hc ha hb) fun D σ H ⟨φ, as, S, sr, sl, p⟩ => ?_
  refine st_step sr sl p fun φ1 x a S1 H1 x1 sr1 sl1 ra p1 => ?_
  cases ra
  cases x with
  | true => exact ⟨φ1, as, S1, sr1, sl1, p1⟩
  | false => exact ⟨φ1, as, S1, sr1, sl1, p1⟩
/-! ### targets -/
abbrev TA' := A → Slo → Sto → R Slo
abbrev TAs := List A → Slo → Sto → R Slo
def rdG (K : PySem.W.Frag) (f : TA') : TG := fun v σ H Q => ∃ φ a as S, SR K φ H S ∧ SL K φ H σ as ∧ VR K φ H v a ∧ Post (SL K) K φ H (f a as S) Q (fun _ => False)
def rdGs (K : PySem.W.Frag) (f : TAs) : TGs := fun vs σ H Q => ∃ φ l as S, SR K φ H S ∧ SL K φ H σ as ∧ VRs K φ H vs l ∧ Post (SL K) K φ H (f l as S) Q (fun _ => False)
theorem PGs_mono {t t' : TGs} (h : PGs X es t) (k : ∀ v σ H Q, t' v σ H Q → t v σ H Q) : PGs X es t' := ⟨fun pins s σ H v u Q I r q => h.run pins s σ H v u Q I r (k v σ H Q q)⟩
def gN (i : Nat) : TA' := fun a as S => .ok (as.set i (some a)) S
theorem g_name {i : Nat} (h : PG X e (gName i)) : PG X e (rdG X.K (gN i)) := PG_mono h fun v σ H Q ⟨φ, a, as, S, sr, sl, r, p⟩ => p.ok sr (sl.set r i)
def gNilA : TAs := fun l as S => match l with
  | [] => .ok as S
  | _ => .bad
def gConsA (t : TA') (u : TAs) : TAs := fun l as S => match l with
  | a :: r => ((t a as S).calm).bnd fun as' S' => u r as' S'
  | [] => .bad
theorem g_nil : PGs X [] (rdGs X.K gNilA) := PGs_mono pgs_nil fun vs σ H Q ⟨φ, l, as, S, sr, sl, r, p⟩ => by
  unfold gNilA at p
  split at p
  · cases r; exact ⟨rfl, p.ok sr sl⟩
  · exact p.elim
theorem g_cons {t : TA'} {u : TAs} (h1 : PG X e (rdG X.K t)) (h2 : PGs X es (rdGs X.K u)) (hs : (assignEach (e :: es) X.env).map (·.2) = assign e X.env :: (assignEach es X.env).map (·.2) := by rfl) : PGs X (e :: es) (rdGs X.K (gConsA t u)) := by
  refine PGs_mono (pgs_cons h1 h2 hs) fun vs σ H Q ⟨φ, l, as, S, sr, sl, r, p⟩ => ?_
  unfold gConsA at p
  split at p
  · rename_i a l'
    cases r with
    | cons r rr =>
      refine ⟨_, _, rfl, φ, a, as, S, sr, sl, r, ?_⟩
      have p' := Post.bnd (Rel := SL X.K) (Q1 := fun σ' H' => rdGs X.K u _ σ' H' Q) p fun φ' H' σ' as' S' _ x sr' sl' p2 => ⟨φ', l', as', S', sr', sl', rr.up x, p2⟩
      exact post_calm p'
  · exact p.elim
def gT (n : Nat) (u : TAs) : TA' := fun a as S => match a with
  | .tup l => if l.length = n then u l as S else .bad
  | _ => .bad
theorem g_tup {k : Nat} {u : TAs} {n : Nat} (hc : X.calm = true) (h : PGs X es (rdGs X.K u)) (hn : (assignEach es X.env).length = n := by rfl) (hst : (assignEach es X.env).findIdx? (·.1) = none := by rfl) : PG X (.Tuple es k pos) (rdG X.K (gT n u)) := by
  refine PG_mono (pg_tup hc h hn hst) fun v σ H Q ⟨φ, a, as, S, sr, sl, r, p⟩ => ?_
  unfold gT at p
  split at p
  · obtain ⟨q, xs, rfl, s, rr⟩ := r.tupOf
    split at p
    · rename_i c
      exact ⟨q, xs, rfl, s, by rw [rr.length]; exact c, φ, _, as, S, sr, sl, rr, p⟩
    · exact p.elim
  · exact p.elim
/-- W of a target: nothing is raised -/
abbrev W0 : WX := fun _ _ _ _ => False
def aSetI' (a k v : A) (as : Slo) (S : Sto) : R Slo := match a, k with
  | .ref n, .int i => match S[n]? with
    | some (.lst xs) => match ixN xs.length i with
      | some j => .ok as (S.set n (.lst (xs.set j v)))
      | none => .bad
    | _ => .bad
  | _, _ => .bad
def gSb (fo fi : AE) : TA' := fun v as S => (((fo as S).bnd fun a S1 => (fi as S1).bnd fun k S2 => aSetI' a k v as S2)).calm
theorem g_sub (ho : PE X o (rdE X.K W0 fo)) (hi : PE X i (rdE X.K W0 fi))
    (ha : ∀ v, assign (.Subscript o i pos) X.env v = (do
      let ov ← holding [v] (eval o X.env)
      let iv ← holding [v, ov] (eval i X.env)
      standAt pos
      holding [v, ov, iv] (setItem ov iv v)
      release [v, ov, iv] []) := by intro _; rfl) : PG X (.Subscript o i pos) (rdG X.K (gSb fo fi)) := by
  refine PG_mono (pg_sub ho hi set_list ha) fun v σ H Q ⟨φ, a, as, S, sr, sl, r, p⟩ => ?_
  have p := post_calm (W' := fun H' => W0 (NV X.K) none σ H') p
  refine rd_step sr sl p fun φ1 x a1 S1 H1 x1 sr1 sl1 ra p1 => ?_
  refine rd_step sr1 sl1 p1 fun φ2 y b S2 H2 x2 sr2 sl2 rb p2 => ?_
  unfold aSetI' at p2
  split at p2
  · obtain ⟨q, rfl, f1⟩ := (VR.up ra x2).refOf
    cases rb
    split at p2
    · rename_i e1
      obtain ⟨xs, h1, r1⟩ := sr2.at f1 e1
      split at p2
      · rename_i j e2
        obtain ⟨x3, sr3⟩ := set_lst sr2 f1 e1 (r1.set (VR.up (VR.up r x1) x2) j)
        exact ⟨q, xs, _, j, rfl, rfl, h1, by rw [r1.length]; exact e2, p2.okX x3 sr3 (sl2.up x3)⟩
      · exact p2.elim
    · exact p2.elim
  · exact p2.elim
/-! ### assignments -/
def yAsg (fe : AE) (t : TA') : AY := fun as S => sbd (fe as S) as fun a S1 => sbd ((t a as S1).calm) as fun as' S2 => .nx as' S2
theorem asg_of {K : PySem.W.Frag} {φ : List Addr} {H : Hp} {S : Sto} {σ : L2.St} {as : Slo} {D : Ends} {t : TA'} {a : A} {v : V} (sr : SR K φ H S) (sl : SL K φ H σ as) (r : VR K φ H v a) (p : PostS K φ H (sbd ((t a as S).calm) as fun as' S2 => .nx as' S2) W D) : rdG K t v σ H D.nx := by
  refine ⟨φ, a, as, S, sr, sl, r, ?_⟩
  cases q : t a as S with
  | ok as' S' => rw [q] at p; exact fun φ' H' σ' x sr' sl' => p φ' H' σ' x sr' sl'
  | exc S' => rw [q] at p; exact p.elim
  | bad => rw [q] at p; exact p.elim
theorem y_asg {tg : Expr} {t : TA'} (he : PE X e (rdE X.K W fe)) (hg : PG X tg (rdG X.K t)) (hs : swapsWithSole [tg] e pos.line X.env = pure false := by rfl) (hw : swappedStores [tg] e X.env = pure none := by rfl)
    (h1 : (assignEach [tg] X.env).map (·.2) = [assign tg X.env] := by rfl) : PS X (.Assign [tg] e pos) (rdS X.K W (yAsg fe t)) := by
  refine PS_mono (ps_asg he hg hs hw h1) fun D σ H ⟨φ, as, S, sr, sl, p⟩ => ?_
  exact st_step sr sl p fun φ1 x a S1 H1 x1 sr1 sl1 ra p1 => asg_of sr1 sl1 ra p1
/-- any statement whose reading is that of x = e -/
theorem y_set {i : Nat} (h : PS X st (tAsg (rdE X.K W fe) (gName i))) : PS X st (rdS X.K W (yAsg fe (gN i))) := by
  refine PS_mono h fun D σ H ⟨φ, as, S, sr, sl, p⟩ => ?_
  exact st_step sr sl p fun φ1 x a S1 H1 x1 sr1 sl1 ra p1 => p1.nxt sr1 (sl1.set ra i)
/-! o.f = e -/
def aSF (f : String) (y a : A) (S : Sto) : R Unit := match a with
  | .ref n => match S[n]? with
    | some (.ins C fs) => match fget f fs with
      | some _ => .ok () (S.set n (.ins C (fput f y fs)))
      | none => .bad
    | _ => .bad
  | _ => .bad
def aSFN (C f : String) (y a : A) (S : Sto) : R Unit := match a with
  | .ref n => match S[n]? with
    | some (.ins D fs) => if D = C then if fs.length < 900 then .ok () (S.set n (.ins C (fput f y fs))) else .bad else .bad
    | _ => .bad
  | _ => .bad
theorem sf_of {K : PySem.W.Frag} {φ : List Addr} {H : Hp} {S : Sto} {f : String} {y a : A} {v w : V} {W : WX} {D : Ends} {as : Slo} {σ : L2.St} (sr : SR K φ H S) (sl : SL K φ H σ as) (ra : VR K φ H v a) (ry : VR K φ H w y) (p : PostS K φ H (sbd (aSF f y a S) as fun _ S2 => .nx as S2) W D) :
    ∃ q C dx gs, v = .ref q ∧ H q = some (.ins C dx gs) ∧ Cls K C ∧ NoAttr K C (Str.ofString f) ∧ gs.length < 1000 ∧ D.nx σ (upd H q (.ins C dx (putF (Str.ofString f) w gs))) := by
  unfold aSF at p
  split at p
  · obtain ⟨q, rfl, f1⟩ := ra.refOf
    split at p
    · rename_i e1
      obtain ⟨dx, gs, h1, c1, n1, l1, r1⟩ := sr.at f1 e1
      split at p
      · rename_i b e2
        have hl : (putF (Str.ofString f) w gs).length < 999 := by
          rw [Paired.length (r1.put ry), fput_len0 e2, ← Paired.length r1]
          exact l1
        have na : ∀ g ∈ (fput f y _).map (·.1), NoAttr K _ (Str.ofString g) := fun g hg => by
          rcases fput_keys g hg with rfl | hg
          · exact n1 _ (fget_mem e2)
          · exact n1 g hg
        obtain ⟨x2, sr2⟩ := set_ins sr f1 e1 h1 c1 na hl r1 ry
        exact ⟨q, _, dx, gs, rfl, h1, c1, n1 f (fget_mem e2), by omega, p _ _ σ x2 sr2 (sl.up x2)⟩
      · exact p.elim
    · exact p.elim
  · exact p.elim
def ySF (fo : AE) (f : String) (fv : AE) : AY := fun as S => sbd (fv as S) as fun y S1 => sbd (fo as S1) as fun a S2 => sbd (aSF f y a S2) as fun _ S3 => .nx as S3
theorem y_sf (f : String) (ho : PE X o (rdE X.K W fo)) (hv : PE X value (rdE X.K W fv)) (hs : swapsWith value (some (.Attribute o (Str.ofString f) pos')) pos.line X.env = pure false) : PS X (.Assign [.Attribute o (Str.ofString f) pos'] value pos) (rdS X.K W (ySF fo f fv)) := by
  refine PS_mono (ps_fld ho hv hs) fun D σ H ⟨φ, as, S, sr, sl, p⟩ => ?_
  refine st_step sr sl p fun φ1 x y S1 H1 x1 sr1 sl1 ry p1 => ?_
  refine st_step sr1 sl1 p1 fun φ2 z a S2 H2 x2 sr2 sl2 ra p2 => ?_
  exact sf_of sr2 sl2 ra (VR.up ry x2) p2
theorem sfn_of {K : PySem.W.Frag} {φ : List Addr} {H : Hp} {S : Sto} {C f : String} {y a : A} {v w : V} {W : WX} {D : Ends} {as : Slo} {σ : L2.St} (na : NoAttr K (He.ga K (Str.ofString C)) (Str.ofString f)) (sr : SR K φ H S) (sl : SL K φ H σ as) (ra : VR K φ H v a) (ry : VR K φ H w y) (p : PostS K φ H (sbd (aSFN C f y a S) as fun _ S2 => .nx as S2) W D) :
    ∃ q C dx gs, v = .ref q ∧ H q = some (.ins C dx gs) ∧ Cls K C ∧ NoAttr K C (Str.ofString f) ∧ gs.length < 1000 ∧ D.nx σ (upd H q (.ins C dx (putF (Str.ofString f) w gs))) := by
  unfold aSFN at p
  split at p
  · obtain ⟨q, rfl, f1⟩ := ra.refOf
    split at p
    · rename_i e1
      obtain ⟨dx, gs, h1, c1, n1, l1, r1⟩ := sr.at f1 e1
      split at p
      · rename_i eC
        subst eC
        split at p
        · rename_i c
          have hl : (putF (Str.ofString f) w gs).length < 999 := by
            rw [Paired.length (r1.put ry)]
            refine Nat.lt_of_le_of_lt fput_len ?_
            omega
          have na' : ∀ g ∈ (fput f y _).map (·.1), NoAttr K _ (Str.ofString g) := fun g hg => by
            rcases fput_keys g hg with rfl | hg
            · exact na
            · exact n1 g hg
          obtain ⟨x2, sr2⟩ := set_ins sr f1 e1 h1 c1 na' hl r1 ry
          exact ⟨q, _, dx, gs, rfl, h1, c1, na, by omega, p _ _ σ x2 sr2 (sl.up x2)⟩
        · exact p.elim
      · exact p.elim
    · exact p.elim
  · exact p.elim
def ySFN (C : String) (fo : AE) (f : String) (fv : AE) : AY := fun as S => sbd (fv as S) as fun y S1 => sbd (fo as S1) as fun a S2 => sbd (aSFN C f y a S2) as fun _ S3 => .nx as S3
theorem y_sfn (C f : String) (na : NoAttr X.K (He.ga X.K (Str.ofString C)) (Str.ofString f)) (ho : PE X o (rdE X.K W fo)) (hv : PE X value (rdE X.K W fv)) (hs : swapsWith value (some (.Attribute o (Str.ofString f) pos')) pos.line X.env = pure false) :
    PS X (.Assign [.Attribute o (Str.ofString f) pos'] value pos) (rdS X.K W (ySFN C fo f fv)) := by
  refine PS_mono (ps_fld ho hv hs) fun D σ H ⟨φ, as, S, sr, sl, p⟩ => ?_
  refine st_step sr sl p fun φ1 x y S1 H1 x1 sr1 sl1 ry p1 => ?_
  refine st_step sr1 sl1 p1 fun φ2 z a S2 H2 x2 sr2 sl2 ra p2 => ?_
  exact sfn_of na sr2 sl2 ra (VR.up ry x2) p2
/-! .. as a target among others -/
def gAttr (K : PySem.W.Frag) (ta : TE) (f : Str) : TG := fun v σ H Q => ta σ H fun x H1 => ∃ a C dx fs, x = .ref a ∧ H1 a = some (.ins C dx fs) ∧ Cls K C ∧ NoAttr K C f ∧ fs.length < 1000 ∧ Q σ (upd H1 a (.ins C dx (putF f v fs)))
theorem pg_attr {ta : TE} {f : Str} (ho : PE X o ta) (ha : ∀ v, assign (.Attribute o f pos) X.env v = (do
      let ov ← holding [v] (eval o X.env)
      standAt pos.atName
      holding [v, ov] (setAttr ov f v)
      release [v, ov] []) := by intro _; rfl) : PG X (.Attribute o f pos) (gAttr X.K ta f) := by
  refine ⟨fun pins s σ H v u Q I r h => ?_⟩
  rw [ha]
  refine wpAny_bind (wpAny_holding (thn (ho.run pins s σ H _ I h) fun ov s1 ⟨x, H1, I1, r1, a, C, dx, fs, ex, ea, c, n, l, q⟩ => ?_))
  subst ex
  obtain rfl : ov = Value.ref a := r1
  refine wpAny_bind (wpAny_standAt (wpAny_bind (wpAny_holding (setattr_ok I1 ea c n l r fun s3 I3 => ?_))))
  exact wpAny_release ⟨σ, _, I3, q⟩
def gAt (C : String) (fo : AE) (f : String) : TA' := fun y as S => (((fo as S).bnd fun a S1 => (aSFN C f y a S1).bnd fun _ S2 => .ok as S2)).calm
theorem g_attr (C f : String) (na : NoAttr X.K (He.ga X.K (Str.ofString C)) (Str.ofString f)) (ho : PE X o (rdE X.K W0 fo)) (ha : ∀ v, assign (.Attribute o (Str.ofString f) pos) X.env v = (do
      let ov ← holding [v] (eval o X.env)
      standAt pos.atName
      holding [v, ov] (setAttr ov (Str.ofString f) v)
      release [v, ov] []) := by intro _; rfl) : PG X (.Attribute o (Str.ofString f) pos) (rdG X.K (gAt C fo f)) := by
  refine PG_mono (pg_attr ho ha) fun v σ H Q ⟨φ, a, as, S, sr, sl, r, p⟩ => ?_
  have p := post_calm (W' := fun H' => W0 (NV X.K) none σ H') p
  refine rd_step sr sl p fun φ1 x a1 S1 H1 x1 sr1 sl1 ra p1 => ?_
  refine sfn_of (D := { nx := Q, rt := fun _ _ => False }) (W := W0) na sr1 sl1 ra (VR.up r x1) ?_
  cases q : aSFN C f a a1 S1 with
  | ok u S2 => rw [q] at p1; exact fun φ' H' σ' x' sr' sl' => p1 φ' H' σ' x' sr' sl'
  | exc S2 =>
    exfalso
    unfold aSFN at q
    repeat' split at q
    all_goals cases q
  | bad => rw [q] at p1; exact p1
/-! o.f += e -/
def aPlus (x y : A) : Option A := match x, y with
  | .int i, .int j => some (.int (i + j))
  | _, _ => none
def aCls (a : A) (S : Sto) : Option String := match a with
  | .ref n => match S[n]? with
    | some (.ins C _) => some C
    | _ => none
  | _ => none
def aSFC (C f : String) (y a : A) (S : Sto) : R Unit := if aCls a S = some C then aSF f y a S else .bad
def aAug (f : String) (fv : AE) (as : Slo) (C : String) (a x : A) (S : Sto) : O := sbd (fv as S) as fun y S3 => match aPlus x y with
  | some z => sbd (aSFC C f z a S3) as fun _ S4 => .nx as S4
  | none => .bad
def yFA (fo : AE) (f : String) (fv : AE) : AY := fun as S => sbd (fo as S) as fun a S1 => match aCls a S1, aFld f a S1 with
  | some C, .ok x S2 => aAug f fv as C a x S2
  | _, _ => .bad
theorem y_fa (f : String) (ho : PE X o (rdE X.K W fo)) (hv : PE X value (rdE X.K W fv)) {tpos : Pos} : PS X (.AugAssign (.Attribute o (Str.ofString f) tpos) .Add value pos) (rdS X.K W (yFA fo f fv)) := by
  refine PS_mono (ps_fldaug ho hv in_add) fun D σ H ⟨φ, as, S, sr, sl, p⟩ => ?_
  refine st_step sr sl p fun φ1 x a S1 H1 x1 sr1 sl1 ra p1 => ?_
  split at p1
  · rename_i C x0 S2 eC q
    unfold aFld at q
    split at q
    · rename_i n
      obtain ⟨q1, rfl, f1⟩ := ra.refOf
      split at q
      · rename_i e1
        obtain ⟨dx, gs, h1, c1, n1, l1, r1⟩ := sr1.at f1 e1
        split at q
        · rename_i e2
          cases q
          simp only [aCls, e1] at eC
          cases eC
          obtain ⟨v, h2, r2⟩ := r1.get e2
          refine ⟨q1, _, dx, gs, v, rfl, h1, c1, n1 f (fget_mem e2), h2, ?_⟩
          unfold aAug at p1
          refine st_step sr1 sl1 p1 fun φ2 y b S2 H2 x2 sr2 sl2 rb p2 => ?_
          split at p2
          · rename_i z ez
            unfold aPlus at ez
            split at ez
            · cases ez
              have r2' := VR.up r2 x2
              cases r2'; cases rb
              refine ⟨_, _, rfl, rfl, ?_⟩
              unfold aSFC at p2
              split at p2
              · rename_i eC2
                have f2 := pre_get x2.pre f1
                unfold aCls at eC2
                simp only at eC2
                cases e3 : S2[n]? with
                | none => rw [e3] at eC2; cases eC2
                | some ob =>
                  rw [e3] at eC2
                  cases ob with
                  | ins C' fs' =>
                    simp only [Option.some.injEq] at eC2
                    subst eC2
                    obtain ⟨dx3, gs3, h3', _⟩ := sr2.at f2 e3
                    obtain ⟨q2, C2, dx2, gs2, e0, h3, c3, n3, l3, nx⟩ := sf_of sr2 sl2 (VR.up ra x2) (.int _) p2
                    cases e0
                    rw [h3'] at h3
                    cases h3
                    exact ⟨dx3, gs3, h3', l3, nx⟩
                  | _ => cases eC2
              · exact p2.elim
            · cases ez
          · exact p2.elim
        · cases q
      · cases q
    · cases q
  · exact p1.elim
end
end RA
/-! RA: more stores, loops, comprehensions, locks, try, raise; a def. -/
namespace RA
open PySem PySem.Spec PyProof.Rows L2 Rb
section
variable {X : Cx} {W : WX} {st : Stmt} {rest body : List Stmt} {e o i c value tg iter : Expr} {es : List Expr} {fe fo fi fv : AE} {fs : AA} {ft : AT} {f g : AY} {t : TA'} {pos pos' : Pos}
/-! ### l[i] += e, d[k] = e -/
def aIxL (a k : A) (S : Sto) : Option A := match a, k with
  | .ref n, .int i => match S[n]? with
    | some (.lst xs) => if 0 ≤ i then xs[i.toNat]? else none
    | _ => none
  | _, _ => none
def aAugL (fv : AE) (as : Slo) (a k : A) (S : Sto) : O := match aIxL a k S with
  | some x => sbd (fv as S) as fun y S1 => match aPlus x y with
    | some z => sbd (aSetI' a k z as S1) as fun as' S2 => .nx as' S2
    | none => .bad
  | none => .bad
def yAugS (fo fi fv : AE) : AY := fun as S => sbd (fo as S) as fun a S1 => sbd (fi as S1) as fun k S2 => aAugL fv as a k S2
theorem y_augS {tpos : Pos} (ho : PE X o (rdE X.K W fo)) (hi : PE X i (rdE X.K W fi)) (he : PE X e (rdE X.K W fe)) (ha : ∀ ov iv new, augStore i ov iv new = (do holding [new, ov, iv] (setItem ov iv new); release [new, ov, iv] []; pure .next) := by intros; rfl) :
    PS X (.AugAssign (.Subscript o i tpos) .Add e pos) (rdS X.K W (yAugS fo fi fe)) := by
  refine PS_mono (ps_augS ho hi get_list he ip_add set_list ha) fun D σ H ⟨φ, as, S, sr, sl, p⟩ => ?_
  refine st_step sr sl p fun φ1 x a S1 H1 x1 sr1 sl1 ra p1 => ?_
  refine st_step sr1 sl1 p1 fun φ2 y k S2 H2 x2 sr2 sl2 rk p2 => ?_
  unfold aAugL at p2
  split at p2
  · rename_i v e1
    unfold aIxL at e1
    split at e1
    · rename_i n j
      obtain ⟨q, rfl, f1⟩ := (VR.up ra x2).refOf
      cases rk
      split at e1
      · rename_i e2
        split at e1
        · rename_i h0
          obtain ⟨xs, h1, r1⟩ := sr2.at f1 e2
          obtain ⟨w, ew, rw'⟩ := r1.get e1
          refine ⟨q, xs, _, w, rfl, rfl, sqL h1, h0, ew, ?_⟩
          refine st_step sr2 sl2 p2 fun φ3 y b S3 H3 x3 sr3 sl3 rb p3 => ?_
          split at p3
          · rename_i z ez
            unfold aPlus at ez
            split at ez
            · cases ez
              have rw2 := VR.up rw' x3
              cases rw2; cases rb
              refine ⟨_, _, rfl, rfl, ?_⟩
              unfold aSetI' at p3
              simp only at p3
              split at p3
              · rename_i e3
                have f3 := pre_get x3.pre f1
                obtain ⟨ys, h3, r3⟩ := sr3.at f3 e3
                split at p3
                · rename_i j' e4
                  obtain ⟨x4, sr4⟩ := set_lst sr3 f3 e3 (r3.set (.int _) j')
                  exact ⟨q, ys, _, j', rfl, rfl, h3, by rw [r3.length]; exact e4, p3 _ _ σ x4 sr4 (sl3.up x4)⟩
                · exact p3.elim
              · exact p3.elim
            · cases ez
          · exact p3.elim
        · cases e1
      · cases e1
    · cases e1
  · exact p2.elim
def yPutK (fo fi fv : AE) : AY := fun as S => sbd (fv as S) as fun v S1 => sbd (fo as S1) as fun a S2 => sbd (fi as S2) as fun k S3 => sbd (aPutK a k v S3) as fun _ S4 => .nx as S4
theorem y_putK (hu : X.A.units + 1 < cLine) (ho : PE X o (rdE X.K W fo)) (hi : PE X i (rdE X.K W fi)) (hv : PE X value (rdE X.K W fv)) (hs : swapsWith value (some (.Subscript o i pos')) pos.line X.env = pure false) : PS X (.Assign [.Subscript o i pos'] value pos) (rdS X.K W (yPutK fo fi fv)) := by
  refine PS_mono (ps_dput hu ho hi hv hs) fun D σ H ⟨φ, as, S, sr, sl, p⟩ => ?_
  refine st_step sr sl p fun φ1 x v S1 H1 x1 sr1 sl1 rv p1 => ?_
  refine st_step sr1 sl1 p1 fun φ2 y a S2 H2 x2 sr2 sl2 ra p2 => ?_
  refine st_step sr2 sl2 p2 fun φ3 z k S3 H3 x3 sr3 sl3 rk p3 => ?_
  unfold aPutK at p3
  split at p3
  · obtain ⟨q, rfl, f1⟩ := (VR.up ra x3).refOf
    split at p3
    · rename_i kvs k' e1 e2
      split at p3
      · rename_i hl
        obtain ⟨ks, h1, r1⟩ := sr3.at f1 e1
        obtain ⟨x4, sr4⟩ := set_dK sr3 f1 e1 (MR.put (g := kk) kkI r1 k' (VR.up (VR.up rv x2) x3))
        exact ⟨q, _, rfl, .inl ⟨ks, kk k', h1, key_V rk e2, by rw [Paired.length r1]; exact cap_lt hl, rfl⟩, p3 _ _ σ x4 sr4 (sl3.up x4)⟩
      · exact p3.elim
    · exact p3.elim
  · exact p3.elim
def aCapO (l : List A) (r : O) : O := if l.length ≤ cap then r else .bad
def yPutT (fo : AE) (fs : AA) (fv : AE) : AY := fun as S => sbd (fv as S) as fun v S1 => sbd (fo as S1) as fun a S2 => sbd (fs as S2) as fun l S3 => aCapO l (sbd (aPutT a l v S3) as fun _ S4 => .nx as S4)
theorem y_putT {n} {tp : Pos} (hu : X.A.units + 1 < cLine) (ho : PE X o (rdE X.K W fo)) (hi : PA X es (rdA X.K W fs)) (hv : PE X value (rdE X.K W fv)) (hs : swapsWith value (some (.Subscript o (.Tuple es n tp) pos')) pos.line X.env = pure false) :
    PS X (.Assign [.Subscript o (.Tuple es n tp) pos'] value pos) (rdS X.K W (yPutT fo fs fv)) := by
  refine PS_mono (ps_dput hu ho (pe_tup hi) hv hs) fun D σ H ⟨φ, as, S, sr, sl, p⟩ => ?_
  refine st_step sr sl p fun φ1 x v S1 H1 x1 sr1 sl1 rv p1 => ?_
  refine st_step sr1 sl1 p1 fun φ2 y a S2 H2 x2 sr2 sl2 ra p2 => ?_
  refine st_step sr2 sl2 p2 fun φ3 z l S3 H3 x3 sr3 sl3 rl p3 => ?_
  unfold aCapO at p3
  split at p3
  · rename_i hc
    refine ⟨by rw [rl.length]; exact cap_size hc, fun q0 hq => ?_⟩
    have x4 : Ext X.K φ3 H3 φ3 (upd H3 q0 (.tup z)) := Ext.new hq
    have sr4 := sr3.new (o := .tup z) hq
    unfold aPutT at p3
    split at p3
    · obtain ⟨q, rfl, f1⟩ := (VR.up ra x3).refOf
      split at p3
      · rename_i kvs k' e1 e2
        split at p3
        · rename_i hl
          obtain ⟨ks, h1, r1⟩ := sr4.at f1 e1
          obtain ⟨x5, sr5⟩ := set_dT sr4 f1 e1 (MR.put (g := List.map kk) kksI r1 k' (VR.up (VR.up (VR.up rv x2) x3) x4))
          refine ⟨q, _, rfl, .inr ⟨ks, k'.map kk, q0, h1, rfl, ?_, by rw [Paired.length r1]; exact cap_lt hl, rfl⟩, p3 _ _ σ (x4.trans x5) sr5 (sl3.up (x4.trans x5))⟩
          rw [upd_same, keys_V rl e2]
        · exact p3.elim
      · exact p3.elim
    · exact p3.elim
  · exact p3.elim
/-! ### raise -/
def yRaise : AY := fun as S => .exc as S
theorem y_raise {E : XK} (h : PS X st (tRaiseE E (He.ga X.K "NotValid"))) : PS X st (rdS X.K (fun cls d _ H => E cls d H) yRaise) := PS_mono h fun D σ H ⟨φ, as, S, sr, sl, p⟩ => p φ H σ Ext.refl sr sl
/-! ### loops -/
abbrev Src := Sto → Nat → Option (Option A)
def ItR (K : PySem.W.Frag) (φ : List Addr) (H : Hp) (J : It) (src : Src) : Prop := ∀ φ' H' S', Ext K φ H φ' H' → SR K φ' H' S' → ∀ i, match src S' i with
  | some (some x) => J.go i H' ∧ ∀ v H'', J.yld i H' v H'' → H'' = H' ∧ VR K φ' H' v x
  | some none => J.stop i H'
  | none => True
abbrev AI := Slo → Sto → R (Nat × Src)
abbrev rdI (K : PySem.W.Frag) (W : WX) (f : AI) : TI := rdX K (fun φ H J ns => ItR K φ H J ns.2) W f
def loopF (src : Src) (t : TA') (f : AY) : Nat → Nat → Slo → Sto → O
  | 0, _, _, _ => .bad
  | n + 1, i, as, S => match src S i with
    | none => .bad
    | some none => .nx as S
    | some (some x) => match t x as S with
      | .ok as1 S1 => match f as1 S1 with
        | .nx as2 S2 => loopF src t f n (i + 1) as2 S2
        | .ct as2 S2 => loopF src t f n (i + 1) as2 S2
        | .bk as2 S2 => .nx as2 S2
        | o => o
      | _ => .bad
def yFor (fi : AI) (t : TA') (f : AY) : AY := fun as S => sbd (fi as S) as fun ns S1 => loopF ns.2 t f ns.1 0 as S1
theorem y_for {fi : AI} (hp : PassesOwn (model X.prog X.w) X.A X.env X.xe) (hc : X.calm = true) (hi : PI X tg iter (rdI X.K W fi)) (hg : PG X tg (rdG X.K t)) (hb : PSs X body (rdS X.K W f)) (hs : ∀ x, foldedSetIterable iter X.env x = pure x := by intro _; rfl) :
    PS X (.For tg iter body [] pos) (rdS X.K W (yFor fi t f)) := by
  refine PS_mono (ps_for hp hc hi hg hb hs) fun D σ H ⟨φ, as, S, sr, sl, p⟩ => ?_
  refine st_step sr sl p fun φ1 J ns S1 H1 x1 sr1 sl1 rj p1 => ?_
  obtain ⟨n, src⟩ := ns
  simp only at p1 rj
  refine ⟨fun i m σ' H' => ∃ φ' as' S', Ext X.K φ1 H1 φ' H' ∧ SR X.K φ' H' S' ∧ SL X.K φ' H' σ' as' ∧ PostS X.K φ' H' (loopF src t f m i as' S') W D, ⟨n, φ1, as, S1, Ext.refl, sr1, sl1, p1⟩, ?_⟩
  rintro i m σ' H' ⟨φ', as', S', x', sr', sl', p'⟩
  cases m with
  | zero => exact p'.elim
  | succ m =>
    unfold loopF at p'
    have hj := rj φ' H' S' x' sr' i
    split at p'
    · exact p'.elim
    · rename_i e1
      rw [e1] at hj
      exact .inl ⟨hj, p'.nxt sr' sl'⟩
    · rename_i x e1
      rw [e1] at hj
      refine .inr ⟨hj.1, fun σ2 H2 => ∃ φ2 as2 S2, Ext X.K φ1 H1 φ2 H2 ∧ SR X.K φ2 H2 S2 ∧ SL X.K φ2 H2 σ2 as2 ∧ PostS X.K φ2 H2 (loopF src t f m (i + 1) as2 S2) W D, fun σ2 H2 h2 => ⟨m, Nat.lt_succ_self m, h2⟩, fun v H'' y => ?_⟩
      obtain ⟨rfl, rv⟩ := hj.2 v H'' y
      refine ⟨φ', x, as', S', sr', sl', rv, ?_⟩
      split at p'
      · rename_i as1 S1' e2
        rw [e2]
        intro φ2 H2 σ2 x2 sr2 sl2
        refine ⟨φ2, as1, S1', sr2, sl2, ?_⟩
        cases e3 : f as1 S1' with
        | nx as3 S3 =>
          rw [e3] at p'
          exact fun φ3 H3 σ3 x3 sr3 sl3 => ⟨φ3, as3, S3, (x'.trans x2).trans x3, sr3, sl3, PostS.up p' (x2.trans x3)⟩
        | ct as3 S3 =>
          rw [e3] at p'
          exact fun φ3 H3 σ3 x3 sr3 sl3 => ⟨φ3, as3, S3, (x'.trans x2).trans x3, sr3, sl3, PostS.up p' (x2.trans x3)⟩
        | bk as3 S3 =>
          rw [e3] at p'
          exact fun φ3 H3 σ3 x3 sr3 sl3 => p' φ3 H3 σ3 (x2.trans x3) sr3 sl3
        | rt a3 S3 =>
          rw [e3] at p'
          exact fun φ3 H3 v3 x3 sr3 r3 => p' φ3 H3 v3 (x2.trans x3) sr3 r3
        | exc as3 S3 =>
          rw [e3] at p'
          exact fun φ3 H3 σ3 x3 sr3 sl3 => p' φ3 H3 σ3 (x2.trans x3) sr3 sl3
        | bad => rw [e3] at p'; exact p'
      · exact p'.elim
/-! what is walked -/
def srcL (n : Nat) : Src := fun S i => match S[n]? with
  | some (.lst ys) => some ys[i]?
  | _ => none
def srcQ (xs : List A) : Src := fun _ i => some xs[i]?
def srcR (lo : Int) (n : Nat) : Src := fun _ i => some (if i < n then some (.int (lo + i)) else none)
def srcV (n : Nat) : Src := fun S i => match S[n]? with
  | some (.dK true kvs) => some (kvs[i]?.map (·.2))
  | _ => none
def aItL (a : A) (S : Sto) : R (Nat × Src) := match a with
  | .ref n => match S[n]? with
    | some (.lst xs) => .ok (xs.length + 1, srcL n) S
    | _ => .bad
  | .seq xs => .ok (xs.length + 1, srcQ xs) S
  | _ => .bad
def iaL (fe : AE) : AI := fun as S => (fe as S).bnd aItL
theorem itl_src {K : PySem.W.Frag} {φ : List Addr} {H : Hp} {n : Nat} {q : Addr} (f1 : φ[n]? = some q) : ItR K φ H (Itl K q) (srcL n) := fun φ' H' S' x' sr' i => by
  unfold srcL
  cases e2 : S'[n]? with
  | none => exact trivial
  | some o =>
    cases o with
    | lst ys =>
      obtain ⟨zs, h2, r2⟩ := sr'.at (pre_get x'.pre f1) e2
      cases e3 : ys[i]? with
      | none => simp only [e3]; exact ⟨zs, sqL h2, by rw [r2.length]; exact List.getElem?_eq_none_iff.mp e3⟩
      | some z =>
        simp only [e3]
        obtain ⟨v, ev, rv⟩ := r2.get e3
        refine ⟨⟨zs, v, sqL h2, ev⟩, fun w H'' y => ?_⟩
        obtain ⟨rfl, y⟩ := y
        refine ⟨rfl, ?_⟩
        rw [y zs (sqL h2)] at ev
        cases ev
        exact rv
    | _ => exact trivial
theorem itq_src {K : PySem.W.Frag} {φ : List Addr} {H : Hp} {l : List A} {q : Addr} {xs : List V} (r : VR K φ H (.ref q) (.seq l)) : ItR K φ H (Itl K q) (srcQ l) := fun φ' H' S' x' sr' i => by
  obtain ⟨q', ys, eq, s2, r2⟩ := (VR.up r x').seqOf
  cases eq
  unfold srcQ
  cases e3 : l[i]? with
  | none => exact ⟨ys, s2, by rw [r2.length]; exact List.getElem?_eq_none_iff.mp e3⟩
  | some z =>
    obtain ⟨v, ev, rv⟩ := r2.get e3
    refine ⟨⟨ys, v, s2, ev⟩, fun w H'' y => ?_⟩
    obtain ⟨rfl, y⟩ := y
    refine ⟨rfl, ?_⟩
    rw [y ys s2] at ev
    cases ev
    exact rv
theorem itt_src {K : PySem.W.Frag} {φ : List Addr} {H : Hp} {l : List A} {q : Addr} (r : VR K φ H (.ref q) (.tup l)) : ItR K φ H (Itt K q) (srcQ l) := fun φ' H' S' x' sr' i => by
  obtain ⟨q', ys, eq, s2, r2⟩ := (VR.up r x').tupOf
  cases eq
  unfold srcQ
  cases e3 : l[i]? with
  | none => exact ⟨ys, s2, by rw [r2.length]; exact List.getElem?_eq_none_iff.mp e3⟩
  | some z =>
    obtain ⟨v, ev, rv⟩ := r2.get e3
    refine ⟨⟨ys, v, s2, ev⟩, fun w H'' y => ?_⟩
    obtain ⟨rfl, y⟩ := y
    refine ⟨rfl, ?_⟩
    rw [y ys s2] at ev
    cases ev
    exact rv
theorem i_l (h : PE X iter (rdE X.K W fe)) : PI X tg iter (rdI X.K W (iaL fe)) := by
  refine PI_mono (pi_list h) fun σ H R ⟨φ, as, S, sr, sl, p⟩ => ?_
  refine rd_step sr sl p fun φ1 x a S1 H1 x1 sr1 sl1 ra p1 => ?_
  unfold aItL at p1
  split at p1
  · obtain ⟨q, rfl, f1⟩ := ra.refOf
    split at p1
    · rename_i e1
      obtain ⟨xs, h1, r1⟩ := sr1.at f1 e1
      exact ⟨q, rfl, ⟨xs, sqL h1⟩, p1.ok sr1 (itl_src f1)⟩
    · exact p1.elim
  · obtain ⟨q, xs, rfl, s1, r1⟩ := ra.seqOf
    exact ⟨q, rfl, ⟨xs, s1⟩, p1.ok sr1 (itq_src (xs := xs) ra)⟩
  · exact p1.elim
def aItT (a : A) (S : Sto) : R (Nat × Src) := match a with
  | .tup xs => .ok (xs.length + 1, srcQ xs) S
  | _ => .bad
def iaT (fe : AE) : AI := fun as S => (fe as S).bnd aItT
theorem i_t (h : PE X iter (rdE X.K W fe)) : PI X tg iter (rdI X.K W (iaT fe)) := by
  refine PI_mono (pi_tup h) fun σ H R ⟨φ, as, S, sr, sl, p⟩ => ?_
  refine rd_step sr sl p fun φ1 x a S1 H1 x1 sr1 sl1 ra p1 => ?_
  unfold aItT at p1
  split at p1
  · obtain ⟨q, xs, rfl, s1, r1⟩ := ra.tupOf
    exact ⟨q, rfl, ⟨xs, s1⟩, p1.ok sr1 (itt_src ra)⟩
  · exact p1.elim
theorem itr_src {K : PySem.W.Frag} {φ : List Addr} {H : Hp} (lo : Int) (n : Nat) : ItR K φ H (Itr lo n) (srcR lo n) := fun φ' H' S' x' sr' i => by
  simp only [srcR]
  by_cases c : i < n
  · rw [if_pos c]
    refine ⟨c, fun v H'' y => ?_⟩
    obtain ⟨rfl, rfl⟩ := y
    exact ⟨rfl, .int _⟩
  · rw [if_neg c]
    exact Nat.le_of_not_lt c
def aRng1 (l : List A) (S : Sto) : R (Nat × Src) := match l with
  | [.int n] => if (decide (-1000000 ≤ n) && decide (n ≤ 1000000)) = true then .ok (n.toNat + 1, srcR 0 n.toNat) S else .bad
  | _ => .bad
def aRng2 (l : List A) (S : Sto) : R (Nat × Src) := match l with
  | [.int m, .int n] => if (decide (-1000000 ≤ m) && (decide (m ≤ 1000000) && (decide (-1000000 ≤ n) && decide (n ≤ 1000000)))) = true then .ok ((n - m).toNat + 1, srcR m (n - m).toNat) S else .bad
  | _ => .bad
def iaR1 (fs : AA) : AI := fun as S => (fs as S).bnd aRng1
def iaR2 (fs : AA) : AI := fun as S => (fs as S).bnd aRng2
theorem i_r1 (h : PI X tg iter (iRng1 (rdA X.K W fs))) : PI X tg iter (rdI X.K W (iaR1 fs)) := by
  refine PI_mono h fun σ H R ⟨φ, as, S, sr, sl, p⟩ => ?_
  refine rd_step sr sl p fun φ1 x a S1 H1 x1 sr1 sl1 ra p1 => ?_
  unfold aRng1 at p1
  split at p1
  · obtain ⟨v, rfl, r⟩ := ra.oneOf
    cases r
    split at p1
    · rename_i c
      simp only [Bool.and_eq_true, decide_eq_true_eq] at c
      exact ⟨_, rfl, by omega, by omega, p1.ok sr1 (itr_src _ _)⟩
    · exact p1.elim
  · exact p1.elim
theorem i_r2 (h : PI X tg iter (iRng2 (rdA X.K W fs))) : PI X tg iter (rdI X.K W (iaR2 fs)) := by
  refine PI_mono h fun σ H R ⟨φ, as, S, sr, sl, p⟩ => ?_
  refine rd_step sr sl p fun φ1 x a S1 H1 x1 sr1 sl1 ra p1 => ?_
  unfold aRng2 at p1
  split at p1
  · obtain ⟨v, w, rfl, r, r2⟩ := ra.twoOf
    cases r; cases r2
    split at p1
    · rename_i c
      simp only [Bool.and_eq_true, decide_eq_true_eq] at c
      exact ⟨_, _, rfl, ⟨by omega, by omega, by omega, by omega⟩, p1.ok sr1 (itr_src _ _)⟩
    · exact p1.elim
  · exact p1.elim
def aVals (a : A) (S : Sto) : R (Nat × Src) := match a with
  | .ref n => match S[n]? with
    | some (.dK true kvs) => .ok (kvs.length + 1, srcV n) S
    | _ => .bad
  | _ => .bad
def iaV (fe : AE) : AI := fun as S => (fe as S).bnd aVals
theorem kr_at {K : PySem.W.Frag} {φ : List Addr} {H : Hp} : ∀ {l : List (Key × V)} {m : List (AK × A)} {i : Nat} {p : Key × V} {r : AK × A}, KR K φ H l m → l[i]? = some p → m[i]? = some r → VR K φ H p.2 r.2 := by
  intro l m i p r h
  unfold KR at h
  induction h generalizing i with
  | nil => intro e; simp at e
  | @cons a b _ _ h t ih =>
    intro e1 e2
    cases i with
    | zero => simp at e1 e2; subst e1 e2; exact h.2
    | succ i => exact ih (by simpa using e1) (by simpa using e2)
theorem itd_src {K : PySem.W.Frag} {φ : List Addr} {H : Hp} {n : Nat} {q : Addr} {od : Obj} {ks : List (Key × V)} (f1 : φ[n]? = some q) (h1 : H q = some (.frz od (.dK ks))) : ItR K φ H (Itd q od ks) (srcV n) := fun φ' H' S' x' sr' i => by
  have h1' := x'.kt.z _ _ _ h1
  unfold srcV
  cases e2 : S'[n]? with
  | none => exact trivial
  | some ob =>
    cases ob with
    | dK l kvs' =>
      cases l with
      | true =>
        obtain ⟨ks', ⟨od', h2⟩, r2⟩ := sr'.at (pre_get x'.pre f1) e2
        rw [h1'] at h2
        cases h2
        have hlen := Paired.length r2
        cases e3 : kvs'[i]? with
        | none => simp only [e3]; exact ⟨h1', by rw [hlen]; exact List.getElem?_eq_none_iff.mp e3⟩
        | some z =>
          simp only [e3]
          have hi : i < kvs'.length := (List.getElem?_eq_some_iff.mp e3).1
          refine ⟨⟨h1', by rw [hlen]; exact hi⟩, fun w H'' y => ?_⟩
          obtain ⟨rfl, k, y⟩ := y
          exact ⟨rfl, kr_at r2 y e3⟩
      | false => exact trivial
    | _ => exact trivial
theorem i_v (h : PI X tg iter (iVals (rdE X.K W fe))) : PI X tg iter (rdI X.K W (iaV fe)) := by
  refine PI_mono h fun σ H R ⟨φ, as, S, sr, sl, p⟩ => ?_
  refine rd_step sr sl p fun φ1 x a S1 H1 x1 sr1 sl1 ra p1 => ?_
  unfold aVals at p1
  split at p1
  · obtain ⟨q, rfl, f1⟩ := ra.refOf
    split at p1
    · rename_i e1
      obtain ⟨ks, ⟨od, h1⟩, r1⟩ := sr1.at f1 e1
      exact ⟨q, od, ks, rfl, h1, p1.ok sr1 (itd_src f1 h1)⟩
    · exact p1.elim
  · exact p1.elim
/-! ### while -/
def whileF (ft : AT) (f : AY) : Nat → Slo → Sto → O
  | 0, _, _ => .bad
  | n + 1, as, S => sbd (ft as S) as fun b S1 => if b = true then match f as S1 with
      | .nx as2 S2 => whileF ft f n as2 S2
      | .ct as2 S2 => whileF ft f n as2 S2
      | .bk as2 S2 => .nx as2 S2
      | o => o
    else .nx as S1
def yWhile (n : Nat) (ft : AT) (f : AY) : AY := fun as S => whileF ft f n as S
theorem y_while (n : Nat) (hp : PassesOwn (model X.prog X.w) X.A X.env X.xe) (hc : PT X c (rdT X.K W ft)) (hb : PSs X body (rdS X.K W f)) : PS X (.While c body [] pos) (rdS X.K W (yWhile n ft f)) := by
  refine PS_mono (ps_while hp hc hb) fun D σ H ⟨φ, as, S, sr, sl, p⟩ => ?_
  refine ⟨fun m σ' H' => ∃ φ' as' S', SR X.K φ' H' S' ∧ SL X.K φ' H' σ' as' ∧ PostS X.K φ' H' (whileF ft f m as' S') W D, ⟨n, φ, as, S, sr, sl, p⟩, ?_⟩
  rintro m σ' H' ⟨φ', as', S', sr', sl', p'⟩
  cases m with
  | zero => exact p'.elim
  | succ m =>
    unfold whileF at p'
    refine st_step sr' sl' p' fun φ1 x a S1 H1 x1 sr1 sl1 ra p1 => ?_
    cases ra
    cases x with
    | false => exact p1.nxt sr1 sl1
    | true =>
      refine ⟨fun σ2 H2 => ∃ φ2 as2 S2, SR X.K φ2 H2 S2 ∧ SL X.K φ2 H2 σ2 as2 ∧ PostS X.K φ2 H2 (whileF ft f m as2 S2) W D, fun σ2 H2 h2 => ⟨m, Nat.lt_succ_self m, h2⟩, φ1, as', S1, sr1, sl1, ?_⟩
      rw [if_pos rfl] at p1
      cases e3 : f as' S1 with
      | nx as3 S3 => rw [e3] at p1; exact fun φ3 H3 σ3 x3 sr3 sl3 => ⟨φ3, as3, S3, sr3, sl3, PostS.up p1 x3⟩
      | ct as3 S3 => rw [e3] at p1; exact fun φ3 H3 σ3 x3 sr3 sl3 => ⟨φ3, as3, S3, sr3, sl3, PostS.up p1 x3⟩
      | bk as3 S3 => rw [e3] at p1; exact fun φ3 H3 σ3 x3 sr3 sl3 => p1 φ3 H3 σ3 x3 sr3 sl3
      | rt a3 S3 => rw [e3] at p1; exact p1
      | exc as3 S3 => rw [e3] at p1; exact p1
      | bad => rw [e3] at p1; exact p1
end
end RA
/-! RA: locks, comprehensions, try; a def. -/
namespace RA
open PySem PySem.Spec PyProof.Rows L2 Rb
/-! ### a dict that is walked stands under a lock -/
def unlkS (n : Nat) (S : Sto) : Option Sto := match S[n]? with
  | some (.dK true kvs) => some (S.set n (.dK false kvs))
  | _ => none
theorem lock_in {K : PySem.W.Frag} {φ : List Addr} {H : Hp} {S : Sto} {n : Nat} {kvs : List (AK × A)} {d : Addr} {ks : List (Key × V)} (sr : SR K φ H S) (f : φ[n]? = some d) (e : S[n]? = some (.dK false kvs)) (hd : H d = some (.dK ks)) (r : KR K φ H ks kvs) (od : Obj) :
    Ext K φ H φ (upd H d (.frz od (.dK ks))) ∧ SR K φ (upd H d (.frz od (.dK ks))) (S.set n (.dK true kvs)) := by
  have m : mutO (H d) = true := by rw [hd]; rfl
  have hn : n < S.length := (List.getElem?_eq_some_iff.mp e).1
  exact ⟨Ext.set m, sr.set f hn m fun x => ⟨ks, ⟨od, upd_same⟩, MR.up (g := kk) r x⟩⟩
theorem lock_out {K : PySem.W.Frag} {φ φ' : List Addr} {H H' : Hp} {S2 S3 : Sto} {n : Nat} {d : Addr} {ks : List (Key × V)} {od : Obj} (f : φ[n]? = some d) (hd : H d = some (.dK ks)) (x : Ext K φ (upd H d (.frz od (.dK ks))) φ' H') (sr : SR K φ' H' S2) (e : unlkS n S2 = some S3) :
    H' d = some (.frz od (.dK ks)) ∧ Ext K φ H φ' (upd H' d (.dK ks)) ∧ SR K φ' (upd H' d (.dK ks)) S3 ∧ KeepV K H' (upd H' d (.dK ks)) := by
  have h1 : H' d = some (.frz od (.dK ks)) := x.kt.z d od ks upd_same
  have kv : KeepV K H' (upd H' d (.dK ks)) := by
    refine ⟨fun p xs h => ?_, fun p xs h => ?_⟩
    · rcases h with (h | ⟨o', h⟩) | h
      · exact .inl (.inl (upd_at (fun e => by subst e; rw [h1] at h; cases h) h))
      · exact .inl (.inr ⟨o', upd_at (fun e => by subst e; rw [h1] at h; cases h) h⟩)
      · exact .inr h
    · rcases h with ⟨o', h⟩ | h
      · exact .inl ⟨o', upd_at (fun e => by subst e; rw [h1] at h; cases h) h⟩
      · exact .inr h
  have m : mutO (H d) = true := by rw [hd]; rfl
  have k0 : KeepT K H (upd H d (.frz od (.dK ks))) := KeepT.upd m
  refine ⟨h1, ⟨x.pre, ⟨fun p xs h => kv.t _ _ (x.kt.t _ _ (k0.t _ _ h)), fun p xs h => kv.l _ _ (x.kt.l _ _ (k0.l _ _ h))⟩, fun p o k h => ?_⟩, ?_, kv⟩
  · have n : p ≠ d := fun e => by subst e; rw [hd] at h; cases h
    exact upd_at n (x.kt.z _ _ _ (k0.z _ _ _ h))
  · unfold unlkS at e
    split at e
    · rename_i kvs e1
      cases e
      have f' := pre_get x.pre f
      obtain ⟨ks', ⟨o', h2⟩, r2⟩ := sr.at f' e1
      rw [h1] at h2
      cases h2
      exact sr.set0 f' (List.getElem?_eq_some_iff.mp e1).1 kv ⟨ks, upd_same, Paired.mapP r2 fun _ _ z => ⟨z.1, VR.mono (List.prefix_refl _) kv _ _ z.2⟩⟩
    · cases e
def unlk (n : Nat) (o : O) : O := match o with
  | .nx as S => match unlkS n S with
    | some S' => .nx as S'
    | none => .bad
  | .rt as S => match unlkS n S with
    | some S' => .rt as S'
    | none => .bad
  | .bk as S => match unlkS n S with
    | some S' => .bk as S'
    | none => .bad
  | .ct as S => match unlkS n S with
    | some S' => .ct as S'
    | none => .bad
  | _ => .bad
def lkS (r : R A) (S : Sto) : Option (Nat × Sto) := match r with
  | .ok (.ref n) _ => match S[n]? with
    | some (.dK false kvs) => some (n, S.set n (.dK true kvs))
    | _ => none
  | _ => none
def yLock (fo : AE) (f : AY) : AY := fun as S => match lkS (fo as S) S with
  | some (n, S1) => unlk n (f as S1)
  | none => .bad
section
variable {X : Cx} {W : WX} {st b₀ : Stmt} {rest body suite : List Stmt} {e o i c value tg iter elt : Expr} {es : List Expr} {fe fo fi fv : AE} {fs : AA} {ft : AT} {f g : AY} {t : TA'} {pos pos' : Pos}
theorem lk_of {K : PySem.W.Frag} {φ : List Addr} {H : Hp} {r : R A} {S S1 : Sto} {n : Nat} (sr : SR K φ H S) (e : lkS r S = some (n, S1)) : ∃ d ks, φ[n]? = some d ∧ H d = some (.dK ks) ∧ ∀ od, Ext K φ H φ (upd H d (.frz od (.dK ks))) ∧ SR K φ (upd H d (.frz od (.dK ks))) S1 := by
  unfold lkS at e
  split at e
  · split at e
    · rename_i kvs e1
      cases e
      obtain ⟨d, f1, ob⟩ := sr.obj e1
      obtain ⟨ks, hd, r1⟩ := ob
      exact ⟨d, ks, f1, hd, fun od => lock_in sr f1 e1 hd r1 od⟩
    · cases e
  · cases e
theorem y_lock (fo : AE) (h : PS X st (rdS X.K W f)) : PS X st (rdS X.K W (yLock fo f)) := by
  refine PS_mono (ps_lock h) fun D σ H ⟨φ, as, S, sr, sl, p⟩ => ?_
  unfold yLock at p
  split at p
  · rename_i n S1 e1
    obtain ⟨d, ks, f1, hd, hl⟩ := lk_of sr e1
    refine ⟨d, _, hd, trivial, fun od => ?_⟩
    obtain ⟨x1, sr1⟩ := hl od
    refine ⟨φ, as, S1, sr1, sl.up x1, ?_⟩
    unfold unlk at p
    cases e3 : f as S1 with
    | nx as2 S2 =>
      rw [e3] at p
      simp only at p
      split at p
      · rename_i S3 e4
        intro φ' H' σ' x' sr' sl'
        obtain ⟨h1, x2, sr2, kv⟩ := lock_out f1 hd x' sr' e4
        exact ⟨h1, p φ' _ σ' x2 sr2 (sl'.mono (List.prefix_refl _) kv)⟩
      · exact p.elim
    | ct as2 S2 =>
      rw [e3] at p
      simp only at p
      split at p
      · rename_i S3 e4
        intro φ' H' σ' x' sr' sl'
        obtain ⟨h1, x2, sr2, kv⟩ := lock_out f1 hd x' sr' e4
        exact ⟨h1, p φ' _ σ' x2 sr2 (sl'.mono (List.prefix_refl _) kv)⟩
      · exact p.elim
    | bk as2 S2 =>
      rw [e3] at p
      simp only at p
      split at p
      · rename_i S3 e4
        intro φ' H' σ' x' sr' sl'
        obtain ⟨h1, x2, sr2, kv⟩ := lock_out f1 hd x' sr' e4
        exact ⟨h1, p φ' _ σ' x2 sr2 (sl'.mono (List.prefix_refl _) kv)⟩
      · exact p.elim
    | rt a2 S2 =>
      rw [e3] at p
      simp only at p
      split at p
      · rename_i S3 e4
        intro φ' H' v' x' sr' r'
        obtain ⟨h1, x2, sr2, kv⟩ := lock_out f1 hd x' sr' e4
        exact ⟨h1, p φ' _ v' x2 sr2 (VR.mono (List.prefix_refl _) kv _ _ r')⟩
      · exact p.elim
    | exc as2 S2 => rw [e3] at p; exact p.elim
    | bad => rw [e3] at p; exact p.elim
  · exact p.elim
def unlkR (n : Nat) (r : R A) : R A := match r with
  | .ok a S => match unlkS n S with
    | some S' => .ok a S'
    | none => .bad
  | _ => .bad
def xLock (fo fe : AE) : AE := fun as S => match lkS (fo as S) S with
  | some (n, S1) => unlkR n (fe as S1)
  | none => .bad
theorem d_lock (fo : AE) (h : PE X e (rdE X.K W fe)) : PE X e (rdE X.K W (xLock fo fe)) := by
  refine PE_mono (pe_lock h) fun σ H Q ⟨φ, as, S, sr, sl, p⟩ => ?_
  unfold xLock at p
  split at p
  · rename_i n S1 e1
    obtain ⟨d, ks, f1, hd, hl⟩ := lk_of sr e1
    refine ⟨d, _, hd, trivial, fun od => ?_⟩
    obtain ⟨x1, sr1⟩ := hl od
    refine ⟨φ, as, S1, sr1, sl.up x1, ?_⟩
    unfold unlkR at p
    cases e3 : fe as S1 with
    | ok a2 S2 =>
      rw [e3] at p
      simp only at p
      split at p
      · rename_i S3 e4
        intro φ' H' v' x' sr' r'
        obtain ⟨h1, x2, sr2, kv⟩ := lock_out f1 hd x' sr' e4
        exact ⟨h1, p φ' _ v' x2 sr2 (VR.mono (List.prefix_refl _) kv _ _ r')⟩
      · exact p.elim
    | exc S2 => rw [e3] at p; exact p.elim
    | bad => rw [e3] at p; exact p.elim
  · exact p.elim
/-! ### comprehensions -/
/-- a target of names alone, these -/
def tgN (is : List Nat) : TA' := match is with
  | [i] => gN i
  | is => fun a as S => match a with
    | .tup l => if l.length = is.length then .ok ((is.zip l).foldl (fun as p => as.set p.1 (some p.2)) as) S else .bad
    | _ => .bad
def TgOk (K : PySem.W.Frag) (g : TG) (t : TA') (vs : List Nat) : Prop := ∀ (φ : List Addr) (H : Hp) (S : Sto) (v : V) (a : A) (σ : L2.St) (as as1 : Slo) (S1 : Sto) (Q : L2.St → Hp → Prop), SR K φ H S → SL K φ H σ as → VR K φ H v a → t a as S = .ok as1 S1 → (∀ σ1, SL K φ H σ1 as1 → wipe σ1 vs = wipe σ vs → S1 = S → Q σ1 H) → g v σ H Q
theorem wipe_len (σ : L2.St) (vs : List Nat) : (wipe σ vs).length = σ.length := wipe_length σ vs
theorem wipe_get (σ : L2.St) : ∀ (vs : List Nat) (j : Nat), (wipe σ vs)[j]? = if j ∈ vs then (if j < σ.length then some none else none) else σ[j]?
  | [], j => by simp [wipe]
  | v :: vs, j => by
    unfold wipe
    rw [List.getElem?_set, wipe_len]
    by_cases c : v = j
    · subst c
      simp
    · rw [if_neg c, wipe_get σ vs j]
      have : j ∈ v :: vs ↔ j ∈ vs := by simp [Ne.symm c]
      simp only [this]
theorem wipe_ext {σ σ' : L2.St} {vs : List Nat} (hl : σ'.length = σ.length) (h : ∀ j, j ∉ vs → σ'[j]? = σ[j]?) : wipe σ' vs = wipe σ vs := by
  apply List.ext_getElem?
  intro j
  rw [wipe_get, wipe_get, hl]
  split
  · rfl
  · exact h j (by assumption)
theorem wipe_idem (σ : L2.St) (vs : List Nat) : wipe (wipe σ vs) vs = wipe σ vs := wipe_ext (wipe_len σ vs) fun j hj => by rw [wipe_get, if_neg hj]
theorem tg_name {K : PySem.W.Frag} (i : Nat) : TgOk K (gName i) (gN i) [i] := fun φ H S v a σ as as1 S1 Q sr sl r e k => by
  cases e
  refine k _ (sl.set r i) (wipe_ext (by simp) fun j hj => ?_) rfl
  have : i ≠ j := fun z => hj (by simp [z])
  rw [List.getElem?_set_ne this]
/-- n names out of a tuple -/
def setsV (is : List Nat) (vs : List V) (σ : L2.St) : L2.St := (is.zip vs).foldl (fun σ p => σ.set p.1 (some p.2)) σ
def gNames (is : List Nat) : TGs := is.foldr (fun i u => gCons (gName i) u) gNil
theorem gNames_run {H : Hp} {Q : L2.St → Hp → Prop} : ∀ (is : List Nat) (vs : List V) (σ : L2.St), vs.length = is.length → Q (setsV is vs σ) H → gNames is vs σ H Q
  | [], [], σ, _, h => ⟨rfl, h⟩
  | [], _ :: _, _, e, _ => by simp at e
  | _ :: _, [], _, e, _ => by simp at e
  | i :: is, v :: vs, σ, e, h => ⟨v, vs, rfl, gNames_run is vs _ (by simpa using e) h⟩
theorem setsV_sl {K : PySem.W.Frag} {φ : List Addr} {H : Hp} : ∀ (is : List Nat) {vs : List V} {l : List A} {σ : L2.St} {as : Slo}, VRs K φ H vs l → SL K φ H σ as → SL K φ H (setsV is vs σ) ((is.zip l).foldl (fun as p => as.set p.1 (some p.2)) as)
  | [], _, _, _, _, _, s => by simpa [setsV] using s
  | i :: is, _, _, _, _, .nil, s => by simpa [setsV] using s
  | i :: is, _, _, σ, as, .cons r t, s => by
    simp only [setsV, List.zip_cons_cons, List.foldl_cons]
    exact setsV_sl is t (s.set r i)
theorem setsV_off {j : Nat} : ∀ (is : List Nat) (vs : List V) (σ : L2.St), j ∉ is → (setsV is vs σ)[j]? = σ[j]?
  | [], _, _, _ => by simp [setsV]
  | _ :: _, [], _, _ => by simp [setsV]
  | i :: is, v :: vs, σ, h => by
    have hi : i ≠ j := fun z => h (by simp [z])
    have hr : j ∉ is := fun z => h (by simp [z])
    show (setsV is vs (σ.set i (some v)))[j]? = _
    rw [setsV_off is vs _ hr, List.getElem?_set_ne hi]
theorem setsV_len : ∀ (is : List Nat) (vs : List V) (σ : L2.St), (setsV is vs σ).length = σ.length
  | [], _, _ => by simp [setsV]
  | _ :: _, [], _ => by simp [setsV]
  | i :: is, v :: vs, σ => by
    show (setsV is vs (σ.set i (some v))).length = _
    rw [setsV_len is vs _, List.length_set]
def gTN (n : Nat) (is : List Nat) : TA' := fun a as S => match a with
  | .tup l => if l.length = n then .ok ((is.zip l).foldl (fun as p => as.set p.1 (some p.2)) as) S else .bad
  | _ => .bad
theorem tg_names {K : PySem.W.Frag} (n : Nat) (is ws : List Nat) (hn : n = is.length) (hw : ∀ i ∈ is, i ∈ ws) : TgOk K (gTup K n (gNames is)) (gTN n is) ws := fun φ H S v a σ as as1 S1 Q sr sl r e k => by
  subst hn
  unfold gTN at e
  split at e
  · obtain ⟨q, xs, rfl, s, rr⟩ := r.tupOf
    split at e
    · rename_i c
      cases e
      refine ⟨q, xs, rfl, s, by rw [rr.length]; exact c, gNames_run is xs σ (by rw [rr.length]; exact c) ?_⟩
      exact k _ (setsV_sl is rr sl) (wipe_ext (setsV_len _ _ _) fun j hj => setsV_off _ _ _ fun z => hj (hw j z)) rfl
    · cases e
  · cases e
def compF (src : Src) (t : TA') (tt : AT) (te : AE) (d : Nat) (as0 : Slo) : Nat → Nat → Sto → R Unit
  | 0, _, _ => .bad
  | n + 1, i, S => match src S i with
    | none => .bad
    | some none => .ok () S
    | some (some x) => match t x as0 S with
      | .ok as1 S1 => match tt as1 S1 with
        | .ok false S2 => compF src t tt te d as0 n (i + 1) S2
        | .ok true S2 => match te as1 S2 with
          | .ok y S3 => match S3[d]? with
            | some (.lst acc) => if acc.length < cap then compF src t tt te d as0 n (i + 1) (S3.set d (.lst (acc ++ [y]))) else .bad
            | _ => .bad
          | _ => .bad
        | _ => .bad
      | _ => .bad
def aComp (t : TA') (tt : AT) (te : AE) (as0 : Slo) (ns : Nat × Src) (S : Sto) : R A := (compF ns.2 t tt te S.length as0 ns.1 0 (S ++ [.lst []])).bnd fun _ S2 => .ok (.ref S.length) S2
def xLc (fi : AI) (t : TA') (tt : AT) (te : AE) (vs : List Nat) : AE := fun as S => (fi as S).bnd fun ns S1 => aComp t tt te (wipA as vs) ns S1
def xYes : AT := fun _ S => .ok true S
theorem rd_lc {K : PySem.W.Frag} {wi : TI} {fi : AI} {gr : TG} {tt : AT} {te : AE} {vs : List Nat} {σ : L2.St} {H : Hp} {Q : VK} (hwi : ∀ σ H R, rdI K W fi σ H R → wi σ H R) (htg : TgOk K gr t vs) (h : rdE K W (xLc fi t tt te vs) σ H Q) : tLc wi gr (rdT K W0 tt) (rdE K W0 te) vs σ H Q := by
  obtain ⟨φ, as, S, sr, sl, p⟩ := h
  refine hwi _ _ _ (rd_step sr sl p fun φ1 J ns S1 H1 x1 sr1 sl1 rj p1 => ?_)
  intro D hD
  obtain ⟨n, src⟩ := ns
  have xD := Ext.push (K := K) (φ := φ1) (ho := .lst []) hD
  have srD := sr1.push (o := .lst []) (ho := .lst []) hD ⟨[], upd_same, .nil⟩
  have p1 := Post.up p1 xD
  unfold aComp at p1
  simp only at p1 rj
  refine ⟨fun i m H' => ∃ φ' S', Ext K φ1 H1 φ' H' ∧ φ'[S1.length]? = some D ∧ SR K φ' H' S' ∧ Post (VR K) K φ' H' ((compF src t tt te S1.length (wipA as vs) m i S').bnd fun _ S2 => .ok (.ref S1.length) S2) Q (fun H' => W (NV K) none σ H'), ⟨n, φ1 ++ [D], _, xD, at_new sr1 D, srD, p1⟩, ?_⟩
  rintro i m H' ⟨φ', S', x', fD, sr', p'⟩
  cases m with
  | zero => exact p'.elim
  | succ m =>
    unfold compF at p'
    have hj := rj φ' H' S' x' sr' i
    split at p'
    · exact p'.elim
    · rename_i e1
      rw [e1] at hj
      exact .inl ⟨hj, p'.ok sr' (.ref fD)⟩
    · rename_i x e1
      rw [e1] at hj
      refine .inr ⟨hj.1, fun H2 => ∃ φ' S', Ext K φ1 H1 φ' H2 ∧ φ'[S1.length]? = some D ∧ SR K φ' H2 S' ∧ Post (VR K) K φ' H2 ((compF src t tt te S1.length (wipA as vs) m (i + 1) S').bnd fun _ S2 => .ok (.ref S1.length) S2) Q (fun H' => W (NV K) none σ H'), fun H2 h2 => ⟨m, Nat.lt_succ_self m, h2⟩, fun v H'' y => ?_⟩
      obtain ⟨rfl, rv⟩ := hj.2 v H'' y
      split at p'
      · rename_i as1 S1' e2
        refine htg φ' H'' S' v x _ _ as1 S1' _ sr' ((sl1.up x').wipe vs) rv e2 fun σ1 sl1' ew eS => ?_
        subst eS
        refine ⟨ew.trans (wipe_idem σ vs), ?_⟩
        refine ⟨φ', as1, S1', sr', sl1', ?_⟩
        split at p'
        · rename_i S2 e3
          rw [e3]
          intro φ2 H2 b x2 sr2 hb
          cases hb
          exact ⟨φ2, S2, x'.trans x2, pre_get x2.pre fD, sr2, Post.up p' x2⟩
        · rename_i S2 e3
          rw [e3]
          intro φ2 H2 b x2 sr2 hb
          cases hb
          rw [if_pos rfl]
          refine ⟨φ2, as1, S2, sr2, sl1'.up x2, ?_⟩
          split at p'
          · rename_i y3 S3 e4
            rw [e4]
            intro φ3 H3 v3 x3 sr3 r3
            split at p'
            · rename_i acc e5
              split at p'
              · rename_i hc
                have f3 := pre_get (x2.trans x3).pre fD
                obtain ⟨ws, h5, r5⟩ := sr3.at f3 e5
                obtain ⟨x4, sr4⟩ := set_lst sr3 f3 e5 (r5.app (VRs.one r3))
                exact ⟨ws, h5, by rw [r5.length]; exact cap_lt hc, φ3, _, ((x'.trans x2).trans x3).trans x4, f3, sr4, Post.up p' ((x2.trans x3).trans x4)⟩
              · exact p'.elim
            · exact p'.elim
          · exact p'.elim
        · exact p'.elim
      · exact p'.elim
theorem d_yes : PTs X [] (rdT X.K W xYes) := ⟨fun pins s σ H Q I ⟨φ, as, S, sr, sl, p⟩ => pts_nil.run pins s σ H Q I (p.ok sr rfl)⟩
/-! ### try -/
def O.calm : O → O
  | .exc _ _ => .bad
  | o => o
theorem posts_calm {K : PySem.W.Frag} {φ : List Addr} {H : Hp} {o : O} {W W' : WX} {D : Ends} (p : PostS K φ H o.calm W D) : PostS K φ H o W' D := by
  cases o with
  | exc as S => exact p.elim
  | _ => exact p
def yTry (f g : AY) : AY := fun as S => match f as S with
  | .exc as' S' => (g as' S').calm
  | o => o
theorem y_tryOnly {x : Str} {np pos' : Pos} {C : Addr} (hs : X.stack = X.env :: X.outer) (hf : X.env.frame = some X.env.locals) (hg : Gl X x) (hd : (x == ("__debug__" : Str)) = false) (hc : X.mg x = some (.ref C)) (em : PySem.W.exmOne X.K (NV X.K) (.ref C) = some true)
    (hb : ∀ (W : WX) (pn : List (Addr × Obj)) (xe : Value → Shared → Prop), Takes (X.tr pn xe) W → PassesOwn (model X.prog X.w) X.A X.env xe → PSs (X.tr pn xe) body (rdS X.K W f))
    (hsu : ∀ (a : Addr) (oe : Obj) (pn : List (Addr × Obj)), PSs (X.suite a ((a, oe) :: pn)) (b₀ :: suite) (rdS X.K W0 g)) :
    PS X (.Try body [.ExceptHandler (some (.Name x np)) none (b₀ :: suite) pos'] [] [] pos) (rdS X.K W (yTry f g)) := by
  refine PS_mono (ps_tryOnly (tb := fun W => rdS X.K W f) (ts := fun a cls d => tKn (He.ga X.K "NotValid") (rdS X.K W0 g) cls d) hs hf hg hd hc takes0 (fun W pn xe tkW po => hb W pn xe tkW po) (fun a oe cls d pn hz hfl => pss_kn fun e1 e2 => hsu a oe pn)) fun D σ H ⟨φ, as, S, sr, sl, p⟩ => ?_
  refine ⟨φ, as, S, sr, sl, ?_⟩
  unfold yTry at p
  cases e3 : f as S with
  | exc as2 S2 =>
    rw [e3] at p
    refine fun φ' H' σ' x' sr' sl' => i_wOnly (ts := fun _ => rdS X.K W0 g) em fun a ha => ⟨φ', as2, S2, sr', sl', ?_⟩
    exact posts_calm (PostS.up p x')
  | nx as2 S2 => rw [e3] at p; exact p
  | rt as2 S2 => rw [e3] at p; exact p
  | bk as2 S2 => rw [e3] at p; exact p
  | ct as2 S2 => rw [e3] at p; exact p
  | bad => rw [e3] at p; exact p
/-- except .. as e: return ["refused", isinstance(e, NotValid)] -/
def yTryRef (j : Nat) (f : AY) : AY := fun as S => match f as S with
  | .exc as' S' => if j < as'.length then .rt (.ref S'.length) (S' ++ [.lst [.str "refused", .bl true]]) else .bad
  | o => o
theorem y_tryRef {x n : Str} {np pos' : Pos} {C : Addr} {j : Nat} (hok : PyData.strOk (Str.ofString "refused") = true) (hs : X.stack = X.env :: X.outer) (hf : X.env.frame = some X.env.locals) (hN : X.N.Nodup) (hi : X.N[j]? = some n) (hln : X.env.kindOf n = some .local) (hg : Gl X x) (hd : (x == ("__debug__" : Str)) = false) (hc : X.mg x = some (.ref C))
    (em : PySem.W.exmOne X.K (NV X.K) (.ref C) = some true)
    (hb : ∀ (W : WX) (pn : List (Addr × Obj)) (xe : Value → Shared → Prop), Takes (X.tr pn xe) W → PassesOwn (model X.prog X.w) X.A X.env xe → PSs (X.tr pn xe) body (rdS X.K W f))
    (hsu : ∀ (a : Addr) (oe : Obj) (pn : List (Addr × Obj)), Zc (NV X.K) none oe → (∃ vs, oe.data = .fields vs) → PSs (X.suite a ((a, oe) :: pn)) (b₀ :: suite) (tRet (tLst (tCons (tC (.str "refused")) (tCons (tCB (rIsE X.K (He.ga X.K "NotValid") a) (tCons (tVar j) (tCons (tC (.ref (He.ga X.K "NotValid"))) tNil))) tNil))))) :
    PS X (.Try body [.ExceptHandler (some (.Name x np)) (some n) (b₀ :: suite) pos'] [] [] pos) (rdS X.K W (yTryRef j f)) := by
  refine PS_mono (ps_tryAs (i := j) (tb := fun W => rdS X.K W f) (ts := fun a cls d => tKn (He.ga X.K "NotValid") (tRet (tLst (tCons (tC (.str "refused")) (tCons (tCB (rIsE X.K (He.ga X.K "NotValid") a) (tCons (tVar j) (tCons (tC (.ref (He.ga X.K "NotValid"))) tNil))) tNil)))) cls d) hs hf hN hi hln hg hd hc takes0 (fun W pn xe tkW po => hb W pn xe tkW po) (fun a oe cls d pn hz hfl => pss_kn fun e1 e2 => by
    subst e1 e2
    exact hsu a oe pn hz hfl)) fun D σ H ⟨φ, as, S, sr, sl, p⟩ => ?_
  refine ⟨φ, as, S, sr, sl, ?_⟩
  unfold yTryRef at p
  cases e3 : f as S with
  | exc as2 S2 =>
    rw [e3] at p
    simp only at p
    split at p
    case isFalse => exact p.elim
    rename_i hj
    intro φ' H' σ' x' sr' sl'
    have hj' : j < σ'.length := by rw [Paired.length sl']; exact hj
    refine i_wAs (ts := fun a => tRet (tLst (tCons (tC (.str "refused")) (tCons (tCB (rIsE X.K (He.ga X.K "NotValid") a) (tCons (tVar j) (tCons (tC (.ref (He.ga X.K "NotValid"))) tNil))) tNil)))) em fun a ha => ?_
    refine ⟨.ref a, ?_, ⟨.ref (He.ga X.K "NotValid"), .ref (He.ga X.K "NotValid"), true, rfl, fun u r => r, if_pos (by simp), ?_⟩⟩
    · rw [List.getElem?_set_self hj']
    · refine ⟨by rw [sizeLine_eq]; decide, fun q hq => ?_⟩
      exact p _ _ (.ref q) (x'.trans (Ext.push hq)) (sr'.push hq ⟨_, upd_same, .cons (.str "refused" hok) (.cons (.bl true) .nil)⟩) (.ref (at_new sr' q))
  | nx as2 S2 => rw [e3] at p; exact p
  | rt as2 S2 => rw [e3] at p; exact p
  | bk as2 S2 => rw [e3] at p; exact p
  | ct as2 S2 => rw [e3] at p; exact p
  | bad => rw [e3] at p; exact p
end
/-! ### a def -/
def fnA (ar k : Nat) (body : AY) : FA := fun l S => if l.length = ar then match body (l.map some ++ List.replicate k none) S with
    | .nx _ S' => .ok .non S'
    | .rt a S' => .ok a S'
    | .exc _ S' => .exc S'
    | _ => .bad
  else .bad
abbrev WE0 (E : XK) : WX := fun cls d _ H => E cls d H
theorem okA {P : Program} {w : World} {K : PySem.W.Frag} {mg : Str → Option Value} {base : Heap} {x qual : Str} {st : Stmt} {f : Addr} {N ps : List Str} {k : Nat} {ar lo : Nat} {body : AY}
    (hF : ∃ fd, FunD K x qual (defArgs st) (defBody st) (defScope st) [] [] f fd) (S : FnScope N ps (defScope st)) (har : ps.length = ar) (hlo : N.length = ar + lo)
    (hb : ∀ (kV doc pm : Value) (an : Option Addr) (cdv ct : Value) (us : List Value), us.length = ps.length → bindArgs (PySem.W.fnOf x qual (defArgs st) (defBody st) (defScope st) .none kV doc pm an cdv ct) ⟨us, []⟩ = pure (ps.zip us))
    (hbody : ∀ (cdv : Value) (A : Around) (outer : List Env) (s : Shared) (H : Hp) (E : XK), Room k (A.deeper (envOfC qual (defScope st) s.heap.objs.size f cdv)) →
      PSs (cxOf (L2.CX P w) P w K mg base N qual (defScope st) f cdv A outer s H E) (defBody st) (rdS K (WE0 E) body)) : Okd P w K mg base (k + 1) f ps (spA K (fnA ar lo body)) := by
  have arity : ∀ vs H Q E, spA K (fnA ar lo body) vs H Q E → vs.length = ps.length := fun vs H Q E ⟨φ, as, S, sr, r, p⟩ => by
    unfold fnA at p
    split at p
    · rename_i c
      rw [r.length, c, har]
    · exact p.elim
  refine Okd.of hF S arity hb (t := fun E => rdS K (WE0 E) body) hbody fun vs H Q E h => ?_
  obtain ⟨φ, as, S', sr, r, p⟩ := h
  unfold fnA at p
  split at p
  · rename_i c
    have hn : N.length - vs.length = lo := by rw [r.length, c]; omega
    refine ⟨φ, as.map some ++ List.replicate lo none, S', sr, ?_, ?_⟩
    · unfold L2.start
      rw [hn]
      exact SL.start r lo
    · cases e3 : body (as.map some ++ List.replicate lo none) S' with
      | nx as2 S2 => rw [e3] at p; exact fun φ' H' σ' x' sr' sl' => p φ' H' .non x' sr' .non
      | rt a2 S2 => rw [e3] at p; exact p
      | exc as2 S2 => rw [e3] at p; exact fun φ' H' σ' x' sr' sl' => p φ' H' x' sr'
      | bk as2 S2 => rw [e3] at p; exact p.elim
      | ct as2 S2 => rw [e3] at p; exact p.elim
      | bad => rw [e3] at p; exact p.elim
  · exact p.elim
end RA
namespace RA
open PySem PySem.Spec PyProof.Rows L2 Rb
section
variable {X : Cx} {W : WX} {st : Stmt} {e : Expr} {fi : AI} {gr : TG} {t : TA'} {tt : AT} {te : AE} {vs : List Nat}
theorem d_lc (h : PE X e (tLc (rdI X.K W fi) gr (rdT X.K W0 tt) (rdE X.K W0 te) vs)) (htg : TgOk X.K gr t vs) : PE X e (rdE X.K W (xLc fi t tt te vs)) := PE_mono h fun _ _ _ q => rd_lc (fun _ _ _ z => z) htg q
theorem y_setLc {i : Nat} (h : PS X st (tAsg (tLc (rdI X.K W fi) gr (rdT X.K W0 tt) (rdE X.K W0 te) vs) (gName i))) (htg : TgOk X.K gr t vs) : PS X st (rdS X.K W (yAsg (xLc fi t tt te vs) (gN i))) := by
  refine PS_mono h fun D σ H ⟨φ, as, S, sr, sl, p⟩ => ?_
  have q : rdE X.K W (xLc fi t tt te vs) σ H fun x H1 => gName i x σ H1 D.nx := st_step sr sl p fun φ1 x a S1 H1 x1 sr1 sl1 ra p1 => p1.nxt sr1 (sl1.set ra i)
  exact rd_lc (fun _ _ _ z => z) htg q
end
/-- the law's list -/
theorem law_spA {K : PySem.W.Frag} {g : FA} (hg : ∀ ns : List Int, ns.length ≤ 63 → ∃ S, g [.seq (ns.map .int)] [] = .ok (.bl true) S) (H : Hp) (a : Addr) (ns : List Int) (hl : ns.length ≤ 63) (hO : Only H) (hS : SqL K H a (ns.map V.int)) : spA K g [.ref a] H (fun v _ => v = .bl true) fun _ _ _ => False := by
  have hF : FzL K H a (ns.map V.int) := by
    rcases hS with (h | h) | h
    · rcases hO a with q | ⟨o, xs, q⟩ <;> rw [h] at q <;> cases q
    · exact .inl h
    · exact .inr h
  refine ⟨[], [.seq (ns.map .int)], [], ⟨rfl, List.nodup_nil, fun n p o h => by simp at h⟩, VRs.one (.seq hF (ints_VRs ns)), ?_⟩
  obtain ⟨S, e⟩ := hg ns hl
  rw [e]
  exact fun φ' H' v _ _ r => by cases r; rfl
end RA
/-! RA: SHAPES.get((a, b)) over the written part; defs with a default. -/
namespace RA
open PySem PySem.Spec PyProof.Rows L2 Rb
def shTab : List ((String × String) × Int) := [(("driver", "read"), 2), (("driver", "write"), 3), (("driver", "command"), 2), (("driver", "journal"), 1), (("device", "read"), 2), (("device", "write"), 3), (("device", "dma read"), 3), (("device", "dma write"), 4), (("device", "fetch"), 4), (("device", "commit"), 5), (("device", "tell"), 2), (("guard", "drop"), 1)]
def shGet (a b : String) : List ((String × String) × Int) → A
  | [] => .non
  | (k, n) :: r => if k.1 = a ∧ k.2 = b then .int n else shGet a b r
def aShapes (l : List A) (S : Sto) : R A := match l with
  | [.str a, .str b] => .ok (shGet a b shTab) S
  | _ => .bad
def xShapes (fs : AA) : AE := fun as S => (fs as S).bnd aShapes
def shK (t : (String × String) × Int) : List Key := [.inr (Str.ofString t.1.1), .inr (Str.ofString t.1.2)]
def ShEnt (P : Program) (w : World) (K : PySem.W.Frag) (e : DictEntry) (t : (String × String) × Int) : Prop :=
  ∃ (b : Addr) (o : Obj) (items : Array Value) (m : Nat) (tk : Tok), e = ⟨tupleKeyHash (mixKind P w) (shK t), .ref b, .int t.2 tk⟩ ∧ K.lookup b = some o ∧ o.cls = .type "tuple" ∧ o.data = .seq items m ∧ ItemsAre (mixKind P w) (shK t) items.toList
structure ShapesOk (P : Program) (w : World) (K : PySem.W.Frag) (mg : Str → Option Value) : Prop where
  g : mg "SHAPES" = some (.ref (He.ga K "SHAPES"))
  n : (He.ga K "SHAPES" == sysModules) = false
  d : ∃ es n, K.lookup (He.ga K "SHAPES") = some ⟨.type "dict", none, .dict es n, #[]⟩ ∧ Paired (ShEnt P w K) es.toList shTab
theorem sh_xs {P : Program} {w : World} {K : PySem.W.Frag} {h : Heap} (KI : K.In h) {es : List DictEntry} {tab : List ((String × String) × Int)} (p : Paired (ShEnt P w K) es tab) :
    ∃ xs : List (List Key × Addr × Value), es = xs.map (entryOfKey (tupleKind (mixKind P w))) ∧ (∀ x ∈ xs, (tupleKind (mixKind P w)).is h x.1 x.2.1) ∧ xs.map (·.1) = tab.map shK ∧
      ∀ a b : String, RelV (match shGet a b tab with | .int i => .int i | _ => .non) (((atKey xs [.inr (Str.ofString a), .inr (Str.ofString b)]).map (·.2)).getD .none) := by
  induction p with
  | nil => exact ⟨[], rfl, by simp, rfl, fun a b => rfl⟩
  | @cons e t es tab h1 t1 ih =>
    obtain ⟨xs, rfl, i1, i2, i3⟩ := ih
    obtain ⟨b, o, items, m, tk, rfl, hb, hc, hd, hi⟩ := h1
    refine ⟨(shK t, b, .int t.2 tk) :: xs, rfl, fun x hx => ?_, by rw [List.map_cons, List.map_cons, i2], fun x y => ?_⟩
    · rcases List.mem_cons.mp hx with rfl | hx
      · exact ⟨o, items, m, KI b o hb, hc, hd, hi⟩
      · exact i1 x hx
    · obtain ⟨⟨k1, k2⟩, n⟩ := t
      unfold shGet
      by_cases c : k1 = x ∧ k2 = y
      · obtain ⟨rfl, rfl⟩ := c
        simp only [true_and, if_true]
        have : atKey ((shK ((k1, k2), n), b, Value.int n tk) :: xs) [.inr (Str.ofString k1), .inr (Str.ofString k2)] = some (b, Value.int n tk) := by
          simp [atKey, List.find?_cons, shK]
        rw [this]
        exact ⟨tk, rfl⟩
      · rw [if_neg c]
        have hk : ¬ (shK ((k1, k2), n) = [.inr (Str.ofString x), .inr (Str.ofString y)]) := fun z => by
          simp only [shK, List.cons.injEq, Sum.inr.injEq, and_true] at z
          exact c ⟨str_inj z.1, str_inj z.2⟩
        have : atKey ((shK ((k1, k2), n), b, Value.int n tk) :: xs) [.inr (Str.ofString x), .inr (Str.ofString y)] = atKey xs [.inr (Str.ofString x), .inr (Str.ofString y)] := by
          simp [atKey, List.find?_cons, hk]
        rw [this]
        exact i3 x y
theorem sh_nodup : (shTab.map shK).Nodup := by decide +kernel
section
variable {X : Cx} {W : WX} {es : List Expr} {fs : AA} {p apos cpos tp : Pos} {n : Nat}
theorem sh_get {pins : List (Addr × Obj)} {σ : L2.St} {H : Hp} {s : Shared} {a b : String} {q : Addr} {Q : Value → Shared → Prop} {E : Value → Shared → Prop} (T : ShapesOk X.prog X.w X.K X.mg) (hu : X.A.units + 1 < cLine) (I : Inv X pins σ H s) (eb : H q = some (.tup [.str (Str.ofString a), .str (Str.ofString b)]))
    (h : ∀ w' s', Inv X pins σ H s' → RelV (match shGet a b shTab with | .int i => .int i | _ => .non) w' → Q w' s') : wpAny (model X.prog X.w) X.A (call (.builtin "dict.get") [.ref (He.ga X.K "SHAPES"), .ref q]) Q E s := by
  obtain ⟨es, m, hl, hp⟩ := T.d
  obtain ⟨xs, hx1, hx2, hx3, hx4⟩ := sh_xs I.kIn hp
  have dd : s.heap.DictOfH (tupleKind (mixKind X.prog X.w)) (He.ga X.K "SHAPES") xs := ⟨_, es, m, I.kIn _ _ hl, ⟨rfl, rfl, rfl⟩, rfl, hx1, hx2, by rw [hx3]; exact sh_nodup⟩
  have hk : (tupleKind (mixKind X.prog X.w)).is s.heap [.inr (Str.ofString a), .inr (Str.ofString b)] q := key_of (ks := [.inr (Str.ofString a), .inr (Str.ofString b)]) I.hok eb
  exact call_meetsIn PySem.F.slot_dict_get dd.typeIs PySem.F.entry_dict_get (PySem.F.args_dict_get_2 _ _) (meetsH_dict_get (tupleKind (mixKind X.prog X.w)) _ q T.n) ⟨tupleKind_room_in1 hu, _, xs, hk, dd, h _ _ (I.tok _) (hx4 a b)⟩
theorem d_shapes (T : ShapesOk X.prog X.w X.K X.mg) (ha : PA X es (rdA X.K W fs)) (hu : X.A.units + 65 < cLine) (hg : Gl X "SHAPES" := by rfl) (m : M1 X (.Name "SHAPES" p) "get" apos (.Tuple es n tp) cpos := by exact ⟨rfl, rfl, rfl, rfl⟩) :
    PE X (.Call (.Attribute (.Name "SHAPES" p) "get" apos) [.Tuple es n tp] [] cpos) (rdE X.K W (xShapes fs)) := by
  refine ⟨fun pins s σ H Q I h => ?_⟩
  have ho : PE X (.Name "SHAPES" p) (tC (.ref (He.ga X.K "SHAPES"))) := pe_glob hg T.g rfl
  refine wpAny_Call_method m.base m.few m.line PySem.F.plainAttrs_dict PySem.F.slot_dict_get PySem.F.type_dict_get (thn (ho.run pins s σ H (fun x H1 => x = .ref (He.ga X.K "SHAPES") ∧ rdE X.K W (xShapes fs) σ H1 Q) I ⟨rfl, h⟩) fun u s1 ⟨x, H1, I1, rx, ex, q1⟩ => ?_)
  subst ex
  obtain rfl : u = Value.ref (He.ga X.K "SHAPES") := rx
  obtain ⟨es', m', hl, _⟩ := T.d
  refine ⟨⟨_, I1.kIn _ _ hl, rfl⟩, fun b q => ?_, ?_⟩
  · cases q
    exact ⟨_, I1.kIn _ _ hl, rfl⟩
  rw [m.trees]
  obtain ⟨φ, as, S, sr, sl, pp⟩ := q1
  have key : tTup (rdA X.K W fs) σ H1 fun y H3 => ∃ (a b : String) (q : Addr), y = .ref q ∧ H3 q = some (.tup [.str (Str.ofString a), .str (Str.ofString b)]) ∧ Q (match shGet a b shTab with | .int i => .int i | _ => .non) H3 := by
    refine rd_step sr sl pp fun φ1 xs l S1 H2 x1 sr1 sl1 ra p1 => ?_
    unfold aShapes at p1
    split at p1
    · rename_i a b
      obtain ⟨v, w, rfl, r1, r2⟩ := ra.twoOf
      cases r1; cases r2
      refine ⟨by rw [sizeLine_eq]; show 2 ≤ 16777216; decide, fun q hq => ⟨a, b, q, rfl, upd_same, ?_⟩⟩
      have hv : ∃ i, shGet a b shTab = .int i ∨ shGet a b shTab = .non := by
        generalize shTab = tb
        induction tb with
        | nil => exact ⟨0, .inr rfl⟩
        | cons t r ih =>
          unfold shGet
          split
          · exact ⟨_, .inl rfl⟩
          · exact ih
      refine p1.okX (Ext.new hq) (sr1.new hq) ?_
      obtain ⟨i, e | e⟩ := hv
      · rw [e]; exact .int _
      · rw [e]; exact .non
    · exact p1.elim
  refine Calls.callWith_builtin rfl (Calls.evalArgs_plain (Calls.spliced_cons (thn ((pe_tup ha).run pins s1 σ H1 _ I1 key) fun iv s2 ⟨y, H2, I2, ry, a, b, q, ey, eb, q2⟩ => Calls.spliced_nil ?_)))
  subst ey
  obtain rfl : iv = Value.ref q := ry
  exact sh_get T (by omega) I2 eb fun w' s3 I3 rw' => ⟨_, H2, I3, rw', q2⟩
end
/-! ### what the top leaves of SHAPES -/
abbrev ShO := List (Int × Option (Str × Str) × Option Int)
def strsOf (K : PySem.W.Frag) (v : Value) : Option (Str × Str) := match v with
  | .ref b => match K.lookup b with
    | some ⟨.type c, _, .seq its _, _⟩ => match its.toList with
      | [.str x _, .str y _] => match decide (c = "tuple") with
        | true => some (x, y)
        | false => none
      | _ => none
    | _ => none
  | _ => none
def intOf (v : Value) : Option Int := match v with
  | .int i _ => some i
  | _ => none
def shObs (K : PySem.W.Frag) : Option ShO := match K.lookup (He.ga K "SHAPES") with
  | some ⟨.type c, none, .dict es _, ⟨[]⟩⟩ => match decide (c = "dict") && !(He.ga K "SHAPES" == sysModules) with
    | true => some (es.toList.map fun e => (e.hash, strsOf K e.key, intOf e.val))
    | false => none
  | _ => none
def shVal (w : World) : Option ShO := some (shTab.map fun t => (reduceHash (Builtin.Tuple.tupleHashOf [hashStr w (Str.ofString t.1.1), hashStr w (Str.ofString t.1.2)]), some (Str.ofString t.1.1, Str.ofString t.1.2), some t.2))
theorem strsOf_ok {P : Program} {w : World} {K : PySem.W.Frag} {v : Value} {x y : Str} (h : strsOf K v = some (x, y)) : ∃ b o items m, v = .ref b ∧ K.lookup b = some o ∧ o.cls = .type "tuple" ∧ o.data = .seq items m ∧ ItemsAre (mixKind P w) [.inr x, .inr y] items.toList := by
  unfold strsOf at h
  split at h
  · rename_i b
    split at h
    · rename_i c dd its m sl e1
      split at h
      · rename_i x' t1 y' t2 e2
        split at h
        · rename_i hc
          cases h
          have hc := of_decide_eq_true hc
          subst hc
          refine ⟨b, _, its, m, rfl, e1, rfl, rfl, ?_⟩
          rw [e2]
          exact .cons (mixKind_str P w _ _) (.cons (mixKind_str P w _ _) .nil)
        · cases h
      · cases h
    · cases h
  · cases h
theorem shapes_of {P : Program} {w : World} {K : PySem.W.Frag} {mg : Str → Option Value} (g : mg "SHAPES" = some (.ref (He.ga K "SHAPES"))) (h : shObs K = shVal w) : ShapesOk P w K mg := by
  unfold shObs at h
  split at h
  · rename_i c es m e1
    split at h
    · rename_i hc
      rw [Bool.and_eq_true] at hc
      obtain ⟨h1, h2⟩ := hc
      have h1 := of_decide_eq_true h1
      subst h1
      refine ⟨g, by simpa using h2, es, m, e1, ?_⟩
      unfold shVal at h
      injection h with h
      revert h
      generalize es.toList = l
      generalize shTab = tb
      induction tb generalizing l with
      | nil => intro h; cases l with
        | nil => exact .nil
        | cons e l => simp at h
      | cons t tb ih => intro h; cases l with
        | nil => simp at h
        | cons e l =>
          simp only [List.map_cons, List.cons.injEq, Prod.mk.injEq] at h
          obtain ⟨⟨a1, a2, a3⟩, a4⟩ := h
          refine .cons ?_ (ih l a4)
          obtain ⟨b, o, items, m', b1, b2, b3, b4, b5⟩ := strsOf_ok (P := P) (w := w) a2
          obtain ⟨eh, ek, ev⟩ := e
          simp only at a1 a2 a3 b1
          subst b1
          have : ∃ tk, ev = .int t.2 tk := by
            unfold intOf at a3
            split at a3
            · cases a3; exact ⟨_, rfl⟩
            · cases a3
          obtain ⟨tk, rfl⟩ := this
          exact ⟨b, o, items, m', tk, by rw [a1]; rfl, b2, b3, b4, b5⟩
    · cases h
  · cases h
/-- a def whose last parameter has a default -/
def OkdD (P : Program) (w : World) (K : PySem.W.Frag) (mg : Str → Option Value) (base : Heap) (k : Nat) (f : Addr) (ps : List Str) (sp : Sp) : Prop :=
  ∃ fd dw, FnOk P w K mg base (L2.CX P w) k f fd ps sp ∧ Binds K fd ps [dw] ∧ RelV (.int 0) dw ∧ Binds K fd ps [] ∧ PySem.W.keepIn K (.ref f) = true ∧ True
end RA
/-! RA: a Hook that tells of SHAPES, too. -/
namespace RA
open PySem PySem.Spec PyProof.Rows L2 Rb
abbrev AlS : Type := (He.AlD × Bool) × Option ShO
def keyRefs (g : Addr → Option Obj) (a : Addr) : List Addr := match g a with
  | some ⟨_, _, .dict es _, _⟩ => es.toList.flatMap fun e => He.refV e.key
  | _ => []
def asS (g : Addr → Option Obj) (l : List Addr) : List Addr := l ++ keyRefs g (He.ga (He.frG g l) "SHAPES")
def obsK (fa : List He.Fa) (fn : List He.DefD) (ex : PySem.W.Frag → Bool) (K : PySem.W.Frag) : AlS := ((He.obsD fa fn K, ex K), shObs K)
def obsS (n : Nat) (fa : List He.Fa) (fn : List He.DefD) (ex : PySem.W.Frag → Bool) (g : Addr → Option Obj) : AlS := obsK fa fn ex (He.frG g (asS g (He.asD g n)))
def hookS (n : Nat) (fa : List He.Fa) (fn : List He.DefD) (ex : PySem.W.Frag → Bool) : PySem.W.Hook where
  α := AlS
  obs := fun s => obsS n fa fn ex s.heap.get?
  val := fun w => ((He.valD fn, true), shVal w)
  says := fun w h => ∃ K : PySem.W.Frag, K.In h ∧ He.SaysD fa fn K ∧ ex K = true ∧ shObs K = shVal w
  of := fun _ _ e => ⟨_, He.frG_in, congrArg (fun z : AlS => z.1.1) e, congrArg (fun z : AlS => z.1.2) e, congrArg (fun z : AlS => z.2) e⟩
  keeps := fun _ _ _ ⟨K, hK, c⟩ k => ⟨K, PySem.W.Frag.In.keeps hK k, c⟩
theorem obsS_eq {n : Nat} {fa : List He.Fa} {fn : List He.DefD} {ex : PySem.W.Frag → Bool} {g : Addr → Option Obj} {s : Shared} (h : ∀ a, g a = s.heap.get? a) : obsS n fa fn ex g = (hookS n fa fn ex).obs s := by
  have e : g = s.heap.get? := funext h
  rw [e] <;> rfl
theorem vtup {K : PySem.W.Frag} {x : Str} {vs : List He.Dv} {as : List A} (h : He.tupB K x vs = true) (r : ∀ φ H, VRs K φ H (vs.map (He.Dv.v K)) as) (φ : List Addr) (H : Hp) : VR K φ H (.ref (He.ga K x)) (.tup as) := .tup (He.tupB_ok h H) (r φ H)
end RA
/-! RA: a def whose last parameter has the default 0. -/
namespace RA
open PySem PySem.Spec PyProof.Rows L2 Rb
theorem okAD {P : Program} {w : World} {K : PySem.W.Frag} {mg : Str → Option Value} {base : Heap} {x qual : Str} {st : Stmt} {f : Addr} {N ps : List Str} {k : Nat} {ar lo : Nat} {body : AY}
    (hF : ∃ fd, FunD K x qual (defArgs st) (defBody st) (defScope st) [.int 0] [] f fd) (S : FnScope N ps (defScope st)) (har : ps.length = ar) (hlo : N.length = ar + lo) (hpos : 0 < ps.length)
    (hb1 : ∀ (T : Addr) (kV doc pm : Value) (an : Option Addr) (cdv ct : Value) (us its : List Value), us.length + 1 = ps.length → its.length = 1 →
      ∃ k, bindArgs (PySem.W.fnOf x qual (defArgs st) (defBody st) (defScope st) (.ref T) kV doc pm an cdv ct) ⟨us, []⟩ = seqItems? (.ref T) >>= k ∧ k (some its.toArray) = pure (ps.zip (us ++ its)))
    (hb2 : ∀ (T : Addr) (kV doc pm : Value) (an : Option Addr) (cdv ct : Value) (us its : List Value), us.length = ps.length → its.length = 1 →
      ∃ k, bindArgs (PySem.W.fnOf x qual (defArgs st) (defBody st) (defScope st) (.ref T) kV doc pm an cdv ct) ⟨us, []⟩ = seqItems? (.ref T) >>= k ∧ k (some its.toArray) = pure (ps.zip (us ++ [])))
    (hbody : ∀ (cdv : Value) (A : Around) (outer : List Env) (s : Shared) (H : Hp) (E : XK), Room k (A.deeper (envOfC qual (defScope st) s.heap.objs.size f cdv)) →
      PSs (cxOf (L2.CX P w) P w K mg base N qual (defScope st) f cdv A outer s H E) (defBody st) (rdS K (WE0 E) body)) : OkdD P w K mg base (k + 1) f ps (spA K (fnA ar lo body)) := by
  have arity : ∀ vs H Q E, spA K (fnA ar lo body) vs H Q E → vs.length = ps.length := fun vs H Q E ⟨φ, as, S, sr, r, p⟩ => by
    unfold fnA at p
    split at p
    · rename_i c
      rw [r.length, c, har]
    · exact p.elim
  have pure_ : ∀ vs H Q E, spA K (fnA ar lo body) vs H Q E → rdS K (WE0 E) body { nx := fun _ H' => Q .non H', rt := Q } (start N vs) H := fun vs H Q E h => by
    obtain ⟨φ, as, S', sr, r, p⟩ := h
    unfold fnA at p
    split at p
    · rename_i c
      have hn : N.length - vs.length = lo := by rw [r.length, c]; omega
      refine ⟨φ, as.map some ++ List.replicate lo none, S', sr, ?_, ?_⟩
      · unfold L2.start
        rw [hn]
        exact SL.start r lo
      · cases e3 : body (as.map some ++ List.replicate lo none) S' with
        | nx as2 S2 => rw [e3] at p; exact fun φ' H' σ' x' sr' sl' => p φ' H' .non x' sr' .non
        | rt a2 S2 => rw [e3] at p; exact p
        | exc as2 S2 => rw [e3] at p; exact fun φ' H' σ' x' sr' sl' => p φ' H' x' sr'
        | bk as2 S2 => rw [e3] at p; exact p.elim
        | ct as2 S2 => rw [e3] at p; exact p.elim
        | bad => rw [e3] at p; exact p.elim
    · exact p.elim
  obtain ⟨fd, F⟩ := hF
  have G := F.ok S arity fun cdv A outer s H vs Q E hr h => ⟨rdS K (WE0 E) body, hbody cdv A outer s H E hr, pure_ vs H Q E h⟩
  obtain ⟨ds, rv, hb⟩ := F.binds1 (ps := ps) (ps.length - 1) 0 (by simp) (by simp; omega) fun T kV doc pm an cdv ct us its hu hi => hb1 T kV doc pm an cdv ct us its (by omega) hi
  obtain ⟨es, re, hb'⟩ := F.binds1 (ps := ps) ps.length 1 (by simp) (by simp) fun T kV doc pm an cdv ct us its hu hi => by
    obtain ⟨k, e1, e2⟩ := hb2 T kV doc pm an cdv ct us its hu hi
    have : its.drop 1 = [] := by
      match its, hi with
      | [_], _ => rfl
    exact ⟨k, e1, by rw [this]; exact e2⟩
  cases re
  cases rv with
  | cons r rs =>
    cases rs
    exact ⟨fd, _, G, hb, r, hb', F.kp, trivial⟩
/-! ### == and != of a list whose values are no data, against a list of another length -/
def rEqE (K : PySem.W.Frag) : R2 := fun x y H Q => rEqM K x y H Q ∨ ∃ p q xs ys, x = .ref p ∧ y = .ref q ∧ SqL K H p xs ∧ SqL K H q ys ∧ xs.length ≠ ys.length ∧ Q (.bl false) H
def rNeE (K : PySem.W.Frag) : R2 := fun x y H Q => rNeM K x y H Q ∨ ∃ p q xs ys, x = .ref p ∧ y = .ref q ∧ SqL K H p xs ∧ SqL K H q ys ∧ xs.length ≠ ys.length ∧ Q (.bl true) H
section
variable {X : Cx} {K : PySem.W.Frag}
theorem op_eqE (hu : X.A.units + 65 < cLine) : OpR X (compareOp .Eq) (rEqE X.K) := by
  intro pins s σ H x y v u Q I rx ry h
  rcases h with h | ⟨p, q, xs, ys, rfl, rfl, h1, h2, hl, hq⟩
  · exact op_eqM hu pins s σ H x y v u Q I rx ry h
  · cases rx
    cases ry
    obtain ⟨its, rv, ⟨o, n, ho, hc, _, hd⟩, _⟩ := I.list h1
    obtain ⟨its', rv', ⟨o', n', ho', hc', _, hd'⟩, _⟩ := I.list h2
    have n1 := Vals.length rv
    have n2 := Vals.length rv'
    refine SeqAt.RcAt.lists_lengths (items := its.toArray) (items2 := its'.toArray) ⟨_, ho, hc, _, hd⟩ ⟨_, ho', hc', _, hd'⟩ ?_ (by omega) X.prog X.w X.xe (EP X pins σ Q) ⟨.bl _, H, I, rfl, hq⟩
    simp only [List.size_toArray, bne_iff_ne]
    omega
theorem op_neE (hu : X.A.units + 65 < cLine) : OpR X (compareOp .NotEq) (rNeE X.K) := by
  intro pins s σ H x y v u Q I rx ry h
  rcases h with h | ⟨p, q, xs, ys, rfl, rfl, h1, h2, hl, hq⟩
  · exact op_neM hu pins s σ H x y v u Q I rx ry h
  · cases rx
    cases ry
    obtain ⟨its, rv, ⟨o, n, ho, hc, _, hd⟩, _⟩ := I.list h1
    obtain ⟨its', rv', ⟨o', n', ho', hc', _, hd'⟩, _⟩ := I.list h2
    have n1 := Vals.length rv
    have n2 := Vals.length rv'
    refine SeqAt.RcNeAt.lists_lengths (items := its.toArray) (items2 := its'.toArray) ⟨_, ho, hc, _, hd⟩ ⟨_, ho', hc', _, hd'⟩ ?_ (by omega) X.prog X.w X.xe (EP X pins σ Q) ⟨.bl _, H, I, rfl, hq⟩
    simp only [List.size_toArray, bne_iff_ne]
    omega
def lensNe (a b : A) (S : Sto) : Bool := match a, b with
  | .ref n, .ref m => match S[n]?, S[m]? with
    | some (.lst xs), some (.lst ys) => xs.length != ys.length
    | _, _ => false
  | _, _ => false
def aEqE (a b : A) (S : Sto) : R A := if lensNe a b S = true then .ok (.bl false) S else aEq a b S
def aNeE (a b : A) (S : Sto) : R A := if lensNe a b S = true then .ok (.bl true) S else aNe a b S
theorem lensNe_of {a b : A} {φ : List Addr} {H : Hp} {S : Sto} {x y : V} (sr : SR K φ H S) (ra : VR K φ H x a) (rb : VR K φ H y b) (h : lensNe a b S = true) : ∃ p q xs ys, x = .ref p ∧ y = .ref q ∧ SqL K H p xs ∧ SqL K H q ys ∧ xs.length ≠ ys.length := by
  unfold lensNe at h
  split at h
  · obtain ⟨q1, rfl, f1⟩ := ra.refOf
    obtain ⟨q2, rfl, f2⟩ := rb.refOf
    split at h
    · rename_i e1 e2
      obtain ⟨xs, h1, r1⟩ := sr.at f1 e1
      obtain ⟨ys, h2, r2⟩ := sr.at f2 e2
      refine ⟨q1, q2, xs, ys, rfl, rfl, SqL.of h1, SqL.of h2, ?_⟩
      rw [r1.length, r2.length]
      simpa using h
    · cases h
  · cases h
theorem k_eqE : OpA K (rEqE K) aEqE := by
  intro φ H S x y a b Q W sr ra rb p
  unfold aEqE at p
  split at p
  · rename_i c
    obtain ⟨q1, q2, xs, ys, e1, e2, h1, h2, hl⟩ := lensNe_of sr ra rb c
    exact .inr ⟨q1, q2, xs, ys, e1, e2, h1, h2, hl, p.ok sr (.bl _)⟩
  · exact .inl (k_eq φ H S x y a b Q W sr ra rb p)
theorem k_neE : OpA K (rNeE K) aNeE := by
  intro φ H S x y a b Q W sr ra rb p
  unfold aNeE at p
  split at p
  · rename_i c
    obtain ⟨q1, q2, xs, ys, e1, e2, h1, h2, hl⟩ := lensNe_of sr ra rb c
    exact .inr ⟨q1, q2, xs, ys, e1, e2, h1, h2, hl, p.ok sr (.bl _)⟩
  · exact .inl (k_ne φ H S x y a b Q W sr ra rb p)
end
/-! ### is True, is False: of any value -/
def rIsB2 : R2 := fun x y H Q => ∃ b : Bool, y = .bl b ∧ Q (.bl (decide (x = .bl b))) H
section
variable {X : Cx} {K : PySem.W.Frag}
theorem op_isBl2 : OpR X (compareOp .Is) rIsB2 := by
  intro pins s σ H x y v u Q I rx ry h
  obtain ⟨b, rfl, q⟩ := h
  cases (show u = Value.bool b from ry)
  have other : ∀ v : Value, plainIs v (.bool b) = true → v ≠ .bool b → Q (.bl false) H → wpAny (model X.prog X.w) X.A (compareOp .Is v (.bool b)) (EP X pins σ Q) X.xe s := fun v p n q => wpAny_is_other p n ⟨.bl false, H, I, rfl, q⟩
  cases x with
  | bl a => exact op_isBl pins s σ H (.bl a) (.bl b) v _ Q I rx ry ⟨a, b, rfl, rfl, by simpa using q⟩
  | non => cases (show v = Value.none from rx); exact other _ rfl (by simp) (by simpa using q)
  | int i => obtain ⟨t, rfl⟩ := rx; exact other _ rfl (by simp) (by simpa using q)
  | str i => obtain ⟨t, rfl⟩ := rx; exact other _ rfl (by simp) (by simpa using q)
  | byt i => obtain ⟨t, rfl⟩ := rx; exact other _ rfl (by simp) (by simpa using q)
  | flt i => obtain ⟨t, rfl⟩ := rx; exact other _ rfl (by simp) (by simpa using q)
  | ref a => cases (show v = Value.ref a from rx); exact other _ rfl (by simp) (by simpa using q)
  | ty a => cases (show v = Value.type a from rx); exact other _ rfl (by simp) (by simpa using q)
def aIsB2 (a b : A) (S : Sto) : R A := match a, b with
  | .bl i, .bl j => .ok (.bl (decide (i = j))) S
  | .non, .bl _ => .ok (.bl false) S
  | .int _, .bl _ => .ok (.bl false) S
  | .str _, .bl _ => .ok (.bl false) S
  | .tup _, .bl _ => .ok (.bl false) S
  | .ref _, .bl _ => .ok (.bl false) S
  | _, _ => .bad
theorem k_isB2 : OpA K rIsB2 aIsB2 := by
  intro φ H S x y a b Q W sr ra rb p
  unfold aIsB2 at p
  split at p
  · cases ra; cases rb
    exact ⟨_, rfl, by simpa using p.ok sr (.bl _)⟩
  · cases ra; cases rb
    exact ⟨_, rfl, by simpa using p.ok sr (.bl _)⟩
  · cases ra; cases rb
    exact ⟨_, rfl, by simpa using p.ok sr (.bl _)⟩
  · cases ra; cases rb
    exact ⟨_, rfl, by simpa using p.ok sr (.bl _)⟩
  · obtain ⟨q1, xs, rfl, s1, r1⟩ := ra.tupOf
    cases rb
    exact ⟨_, rfl, by simpa using p.ok sr (.bl _)⟩
  · obtain ⟨q1, rfl, f1⟩ := ra.refOf
    cases rb
    exact ⟨_, rfl, by simpa using p.ok sr (.bl _)⟩
  · exact p.elim
end
end RA
namespace RaP
open RA
def a_frame_cell : FA := fnA 3 0 (yRet (xOp aAdd (xOp aAdd (xOp aMul (xOp aMul (xC (.int 6)) (xC (.int 4))) (xVar 0)) (xOp aMul (xC (.int 4)) (xVar 1))) (xVar 2)))
def a_table_word : FA := fnA 2 0 (yRet (xOp aAdd (xOp aAdd (xC (.int 56)) (xOp aMul (xC (.int 6)) (xVar 0))) (xVar 1)))
def a_first_values : FA := fnA 0 4 (ySeq (yAsg (xOp aMul (xLst (xCons (xC (.int 0)) (xNil))) (xC (.int 70))) (gN 0)) (ySeq (yFor (iaR1 (xCons (xC (.int 2)) (xNil))) (gN 1) (ySeq (yFor (iaR2 (xCons (xCall a_frame_cell (xCons (xVar 1) (xCons (xC (.int 0)) (xCons (xC (.int 0)) (xNil))))) (xCons (xCall a_frame_cell (xCons (xVar 1) (xCons (xC (.int 2)) (xCons (xC (.int 0)) (xNil))))) (xNil)))) (gN 2) (yAsg (xC .non) (gSb (xVar 0) (xVar 2)))) (yFor (iaR1 (xCons (xC (.int 6)) (xNil))) (gN 3) (yAsg (xC .non) (gSb (xVar 0) (xCall a_table_word (xCons (xVar 1) (xCons (xVar 3) (xNil))))))))) (yRet (xVar 0))))
def a_Guard_init : FA := fnA 1 0 (ySeq (ySFN "Guard" (xVar 0) "kept" (xDNewK)) (ySeq (ySFN "Guard" (xVar 0) "waiting" (xLst (xNil))) (ySFN "Guard" (xVar 0) "tickets" (xC (.int 0)))))
def a_Memory_init : FA := fnA 1 1 (ySeq (ySFN "Memory" (xVar 0) "count" (xC (.int 0))) (ySeq (ySFN "Memory" (xVar 0) "held" (xCall0 a_first_values)) (ySeq (ySFN "Memory" (xVar 0) "guards" (xLc (iaR1 (xCons (xC (.int 2)) (xNil))) (gN 1) (xYes) (xMake0 "Guard" a_Guard_init) [1])) (ySeq (ySFN "Memory" (xVar 0) "stored" (xLc (iaR1 (xCons (xC (.int 2)) (xNil))) (gN 1) (xYes) (xOp aMul (xLst (xCons (xTup (xCons (xC (.int 0)) (xCons (xC (.int 0)) (xCons (xC (.int 0)) (xCons (xC (.int 0)) (xNil)))))) (xNil))) (xC (.int 8))) [1])) (ySeq (ySFN "Memory" (xVar 0) "journals" (xLc (iaR1 (xCons (xC (.int 2)) (xNil))) (gN 1) (xYes) (xTup (xNil)) [1])) (ySFN "Memory" (xVar 0) "rows" (xLst (xNil))))))))
def a_is_within : FA := fnA 3 0 (yRet (xAnd (xCall bIsi (xCons (xVar 0) (xCons (xC (.ty "int")) (xNil)))) (xAnd (xNot (xCall bIsi (xCons (xVar 0) (xCons (xC (.ty "bool")) (xNil))))) (xChain aLe aLe (xVar 1) (xVar 0) (xVar 2)))))
def a_Memory_check_cell : FA := fnA 2 0 (yIf (xNotT (xTru (xCall a_is_within (xCons (xVar 1) (xCons (xC (.int 0)) (xCons (xOp aSub (xC (.int 70)) (xC (.int 1))) (xNil))))))) (yRaise) (yNext))
def a_Memory_peek : FA := fnA 2 0 (ySeq (yDrop (xMeth "Memory" "check_cell" a_Memory_check_cell (xVar 0) (xCons (xVar 1) (xNil)))) (yRet (xOp aIx (xFld (xVar 0) "held") (xVar 1))))
def a_Memory_check_actor : FA := fnA 3 0 (ySeq (yIf (xOrT (xNotT (xTru (xCall bIsi (xCons (xVar 1) (xCons (xC (.ty "tuple")) (xNil)))))) (xOrT (xT (xOp aNe (xCall bLen (xCons (xVar 1) (xNil))) (xC (.int 2)))) (xNotT (xTru (xCall a_is_within (xCons (xOp aIx (xVar 1) (xC (.int 1))) (xCons (xC (.int 0)) (xCons (xOp aSub (xC (.int 2)) (xC (.int 1))) (xNil))))))))) (yRaise) (yNext)) (ySeq (yIf (xOrT (xNotT (xTru (xCall bIsi (xCons (xVar 2) (xCons (xC (.ty "tuple")) (xNil)))))) (xT (xOp aEq (xCall bLen (xCons (xVar 2) (xNil))) (xC (.int 0))))) (yRaise) (yNext)) (yIf (xT (xOp aNe (xShapes (xCons (xOp aIx (xVar 1) (xC (.int 0))) (xCons (xOp aIx (xVar 2) (xC (.int 0))) (xNil)))) (xCall bLen (xCons (xVar 2) (xNil))))) (yRaise) (yNext))))
def a_doorbell : FA := fnA 1 0 (yRet (xOp aAdd (xC (.int 48)) (xOp aMul (xC (.int 4)) (xVar 0))))
def a_interrupt : FA := fnA 1 0 (yRet (xOp aAdd (xCall a_doorbell (xCons (xVar 0) (xNil))) (xC (.int 3))))
def a_is_register : FA := fnA 2 0 (yRet (xChain aLe aLe (xCall a_doorbell (xCons (xVar 0) (xNil))) (xVar 1) (xCall a_interrupt (xCons (xVar 0) (xNil)))))
def a_acknowledge : FA := fnA 1 0 (yRet (xOp aAdd (xC (.int 68)) (xVar 0)))
def a_is_of_driver : FA := fnA 2 0 (ySeq (yIf (xOrT (xT (xChain aLe aLt (xCall a_frame_cell (xCons (xVar 0) (xCons (xC (.int 0)) (xCons (xC (.int 0)) (xNil))))) (xVar 1) (xCall a_frame_cell (xCons (xVar 0) (xCons (xC (.int 6)) (xCons (xC (.int 0)) (xNil))))))) (xTru (xCall a_is_register (xCons (xVar 0) (xCons (xVar 1) (xNil)))))) (yRet (xC (.bl true))) (yNext)) (yRet (xOr (xChain aLe aLt (xCall a_table_word (xCons (xVar 0) (xCons (xC (.int 0)) (xNil)))) (xVar 1) (xCall a_table_word (xCons (xVar 0) (xCons (xC (.int 6)) (xNil))))) (xOp aEq (xVar 1) (xCall a_acknowledge (xCons (xVar 0) (xNil)))))))
def a_Memory_check_block : FA := fnA 2 0 (yIf (xNotT (xTru (xCall a_is_within (xCons (xVar 1) (xCons (xC (.int 0)) (xCons (xOp aSub (xC (.int 8)) (xC (.int 1))) (xNil))))))) (yRaise) (yNext))
def a_Memory_check_request : FA := fnA 3 1 (ySeq (yAsg (xOp aIx (xVar 2) (xC (.int 0))) (gN 3)) (yIf (xOrT (xT (xOp aEq (xVar 3) (xC (.str "read")))) (xT (xOp aEq (xVar 3) (xC (.str "write"))))) (ySeq (yDrop (xMeth "Memory" "check_cell" a_Memory_check_cell (xVar 0) (xCons (xOp aIx (xVar 2) (xC (.int 1))) (xNil)))) (ySeq (yIf (xAndT (xT (xOp aEq (xOp aIx (xVar 1) (xC (.int 0))) (xC (.str "driver")))) (xNotT (xTru (xCall a_is_of_driver (xCons (xOp aIx (xVar 1) (xC (.int 1))) (xCons (xOp aIx (xVar 2) (xC (.int 1))) (xNil))))))) (yRaise) (yNext)) (yIf (xAndT (xT (xOp aEq (xOp aIx (xVar 1) (xC (.int 0))) (xC (.str "device")))) (xNotT (xTru (xCall a_is_register (xCons (xOp aIx (xVar 1) (xC (.int 1))) (xCons (xOp aIx (xVar 2) (xC (.int 1))) (xNil))))))) (yRaise) (yNext)))) (yIf (xT (xOp aIn (xVar 3) (xTup (xCons (xC (.str "dma read")) (xCons (xC (.str "dma write")) (xCons (xC (.str "command")) (xNil))))))) (ySeq (yIf (xNotT (xTru (xCall a_is_within (xCons (xOp aIx (xVar 2) (xC (.int 1))) (xCons (xC (.int 0)) (xCons (xOp aSub (xC (.int 6)) (xC (.int 1))) (xNil))))))) (yRaise) (yNext)) (yIf (xAndT (xT (xOp aNe (xVar 3) (xC (.str "command")))) (xNotT (xTru (xCall a_is_within (xCons (xOp aIx (xVar 2) (xC (.int 2))) (xCons (xC (.int 0)) (xCons (xOp aSub (xC (.int 4)) (xC (.int 1))) (xNil)))))))) (yRaise) (yNext))) (yIf (xOrT (xT (xOp aEq (xVar 3) (xC (.str "fetch")))) (xT (xOp aEq (xVar 3) (xC (.str "commit"))))) (ySeq (yDrop (xMeth "Memory" "check_block" a_Memory_check_block (xVar 0) (xCons (xOp aIx (xVar 2) (xC (.int 1))) (xNil)))) (yIf (xAndT (xT (xOp aEq (xVar 3) (xC (.str "commit")))) (xOrT (xNotT (xTru (xCall bIsi (xCons (xOp aIx (xVar 2) (xC (.int 2))) (xCons (xC (.ty "tuple")) (xNil)))))) (xT (xOp aNe (xCall bLen (xCons (xOp aIx (xVar 2) (xC (.int 2))) (xNil))) (xC (.int 4)))))) (yRaise) (yNext))) (yIf (xAndT (xT (xOp aEq (xVar 3) (xC (.str "tell")))) (xNotT (xTru (xCall bIsi (xCons (xOp aIx (xVar 2) (xC (.int 1))) (xCons (xC (.ty "tuple")) (xNil))))))) (yRaise) (yNext))))))
def a_Guard_command : FA := fnA 2 0 (ySeq (yFA (xVar 0) "tickets" (xC (.int 1))) (ySeq (yDrop (xApp (xFld (xVar 0) "waiting") (xCons (xTup (xCons (xVar 1) (xCons (xFld (xVar 0) "tickets") (xNil)))) (xNil)))) (yRet (xFld (xVar 0) "tickets"))))
def a_Guard_drop : FA := fnA 1 2 (ySeq (yIf (xNotT (xTru (xFld (xVar 0) "waiting"))) (yRet (xC .non)) (yNext)) (ySeq (yAsg (xOp aIx (xFld (xVar 0) "waiting") (xC (.int 0))) (gT 2 (gConsA (gN 1) (gConsA (gN 2) (gNilA))))) (ySeq (ySF (xVar 0) "waiting" (xSl (xFld (xVar 0) "waiting") (xPart (xC (.int 1))) (xNoPart))) (ySeq (yDrop (xPop2 (xFld (xVar 0) "kept") (xVar 1) (xC .non))) (yRet (xVar 2))))))
def a_Memory_drop : FA := fnA 2 1 (ySeq (yAsg (xMeth0 "Guard" "drop" a_Guard_drop (xOp aIx (xFld (xVar 0) "guards") (xVar 1))) (gN 2)) (ySeq (yIf (xT (xOp aIsN (xVar 2) (xC .non))) (yRet (xC (.bl false))) (yNext)) (ySeq (yAsg (xVar 2) (gSb (xFld (xVar 0) "held") (xCall a_acknowledge (xCons (xVar 1) (xNil))))) (yRet (xC (.bl true))))))
def a_is_word : FA := fnA 1 0 (ySeq (yIf (xT (xOp aIsN (xVar 0) (xC .non))) (yRet (xC (.bl true))) (yNext)) (ySeq (yIf (xOrT (xNotT (xTru (xCall bIsi (xCons (xVar 0) (xCons (xC (.ty "tuple")) (xNil)))))) (xOrT (xT (xOp aNe (xCall bLen (xCons (xVar 0) (xNil))) (xC (.int 2)))) (xNotT (xTru (xCall a_is_within (xCons (xOp aIx (xVar 0) (xC (.int 0))) (xCons (xC (.int 0)) (xCons (xOp aSub (xC (.int 6)) (xC (.int 1))) (xNil))))))))) (yRet (xC (.bl false))) (yNext)) (yRet (xAnd (xCall bIsi (xCons (xOp aIx (xVar 0) (xC (.int 1))) (xCons (xC (.ty "str")) (xNil)))) (xOp aIn (xOp aIx (xVar 0) (xC (.int 1))) (xC (.tup [.str "r", .str "w"])))))))
def a_Guard_use : FA := fnA 4 1 (ySeq (yIf (xAndT (xT (xNi (xVar 1) (xFld (xVar 0) "kept"))) (xT (xOp aNotN (xVar 3) (xC .non)))) (yPutK (xFld (xVar 0) "kept") (xVar 1) (xVar 3)) (yNext)) (ySeq (yAsg (xGet1 (xFld (xVar 0) "kept") (xVar 1)) (gN 4)) (ySeq (yIf (xOrT (xT (xOp aIsN (xVar 4) (xC .non))) (xT (xOp aNe (xOp aIx (xVar 4) (xC (.int 1))) (xVar 2)))) (yRet (xC .non)) (yNext)) (yRet (xOp aIx (xVar 4) (xC (.int 0)))))))
def a_Memory_dma_read : FA := fnA 4 0 (ySeq (yIf (xT (xOp aIsN (xVar 2) (xC .non))) (yRet (xC .non)) (yNext)) (yRet (xTup (xCons (xOp aIx (xFld (xVar 0) "held") (xCall a_frame_cell (xCons (xVar 1) (xCons (xVar 2) (xCons (xVar 3) (xNil)))))) (xNil)))))
def a_Memory_dma_write : FA := fnA 5 0 (ySeq (yIf (xT (xOp aIsN (xVar 2) (xC .non))) (yRet (xC (.bl false))) (yNext)) (ySeq (yAsg (xVar 4) (gSb (xFld (xVar 0) "held") (xCall a_frame_cell (xCons (xVar 1) (xCons (xVar 2) (xCons (xVar 3) (xNil))))))) (yRet (xC (.bl true)))))
def a_Memory_device_result : FA := fnA 3 4 (ySeq (yAsg (xOp aIx (xVar 2) (xC (.int 0))) (gN 3)) (ySeq (yIf (xT (xOp aEq (xVar 3) (xC (.str "fetch")))) (yRet (xOp aIx (xOp aIx (xFld (xVar 0) "stored") (xVar 1)) (xOp aIx (xVar 2) (xC (.int 1))))) (yNext)) (ySeq (yIf (xT (xOp aEq (xVar 3) (xC (.str "commit")))) (ySeq (yAsg (xOp aIx (xVar 2) (xC (.int 2))) (gSb (xOp aIx (xFld (xVar 0) "stored") (xVar 1)) (xOp aIx (xVar 2) (xC (.int 1))))) (ySeq (yAsg (xOp aAdd (xOp aIx (xFld (xVar 0) "journals") (xVar 1)) (xTup (xCons (xTup (xCons (xOp aIx (xVar 2) (xC (.int 3))) (xCons (xOp aIx (xVar 2) (xC (.int 4))) (xNil)))) (xNil)))) (gSb (xFld (xVar 0) "journals") (xVar 1))) (yRet (xC .non)))) (yNext)) (ySeq (yAsg (xC (.str "r")) (gN 4)) (ySeq (yIf (xT (xOp aEq (xVar 3) (xC (.str "dma write")))) (yAsg (xC (.str "w")) (gN 4)) (yNext)) (ySeq (yAsg (xOp aIx (xFld (xVar 0) "held") (xCall a_table_word (xCons (xVar 1) (xCons (xOp aIx (xVar 2) (xC (.int 1))) (xNil))))) (gN 5)) (ySeq (yIf (xNotT (xTru (xCall a_is_word (xCons (xVar 5) (xNil))))) (yAsg (xC .non) (gN 5)) (yNext)) (ySeq (yAsg (xMeth "Guard" "use" a_Guard_use (xOp aIx (xFld (xVar 0) "guards") (xVar 1)) (xCons (xOp aIx (xVar 2) (xC (.int 1))) (xCons (xVar 4) (xCons (xVar 5) (xNil))))) (gN 6)) (ySeq (yIf (xT (xOp aEq (xVar 3) (xC (.str "dma read")))) (yRet (xMeth "Memory" "dma_read" a_Memory_dma_read (xVar 0) (xCons (xVar 1) (xCons (xVar 6) (xCons (xOp aIx (xVar 2) (xC (.int 2))) (xNil)))))) (yNext)) (yRet (xMeth "Memory" "dma_write" a_Memory_dma_write (xVar 0) (xCons (xVar 1) (xCons (xVar 6) (xCons (xOp aIx (xVar 2) (xC (.int 2))) (xCons (xOp aIx (xVar 2) (xC (.int 3))) (xNil))))))))))))))))
def a_Memory_result : FA := fnA 3 1 (ySeq (yAsg (xOp aIx (xVar 2) (xC (.int 0))) (gN 3)) (ySeq (yIf (xT (xOp aEq (xVar 3) (xC (.str "read")))) (yRet (xOp aIx (xFld (xVar 0) "held") (xOp aIx (xVar 2) (xC (.int 1))))) (yNext)) (ySeq (yIf (xT (xOp aEq (xVar 3) (xC (.str "write")))) (ySeq (yAsg (xOp aIx (xVar 2) (xC (.int 2))) (gSb (xFld (xVar 0) "held") (xOp aIx (xVar 2) (xC (.int 1))))) (yRet (xC .non))) (yNext)) (ySeq (yIf (xT (xOp aEq (xVar 3) (xC (.str "command")))) (yRet (xMeth "Guard" "command" a_Guard_command (xOp aIx (xFld (xVar 0) "guards") (xVar 1)) (xCons (xOp aIx (xVar 2) (xC (.int 1))) (xNil)))) (yNext)) (ySeq (yIf (xT (xOp aEq (xVar 3) (xC (.str "drop")))) (yRet (xMeth "Memory" "drop" a_Memory_drop (xVar 0) (xCons (xVar 1) (xNil)))) (yNext)) (ySeq (yIf (xT (xOp aEq (xVar 3) (xC (.str "journal")))) (yRet (xOp aIx (xFld (xVar 0) "journals") (xVar 1))) (yNext)) (ySeq (yIf (xT (xOp aEq (xVar 3) (xC (.str "tell")))) (ySeq (yAsg (xOp aIx (xVar 2) (xC (.int 1))) (gSb (xFld (xVar 0) "journals") (xVar 1))) (yRet (xC .non))) (yNext)) (yRet (xMeth "Memory" "device_result" a_Memory_device_result (xVar 0) (xCons (xVar 1) (xCons (xVar 2) (xNil))))))))))))
def a_Memory_access : FA := fnA 3 1 (ySeq (yDrop (xMeth "Memory" "check_actor" a_Memory_check_actor (xVar 0) (xCons (xVar 1) (xCons (xVar 2) (xNil))))) (ySeq (yDrop (xMeth "Memory" "check_request" a_Memory_check_request (xVar 0) (xCons (xVar 1) (xCons (xVar 2) (xNil))))) (ySeq (yFA (xVar 0) "count" (xC (.int 1))) (ySeq (yAsg (xMeth "Memory" "result" a_Memory_result (xVar 0) (xCons (xOp aIx (xVar 1) (xC (.int 1))) (xCons (xVar 2) (xNil)))) (gN 3)) (ySeq (yDrop (xApp (xFld (xVar 0) "rows") (xCons (xTup (xCons (xFld (xVar 0) "count") (xCons (xVar 1) (xCons (xVar 2) (xCons (xVar 3) (xNil)))))) (xNil)))) (yRet (xTup (xCons (xVar 3) (xCons (xFld (xVar 0) "count") (xNil))))))))))
def a_Guard_entries : FA := fnA 1 1 (yRet (xLc (iaL (xCall bSorted (xCons (xFld (xVar 0) "kept") (xNil)))) (gN 1) (xYes) (xTup (xCons (xVar 1) (xCons (xOp aGet (xFld (xVar 0) "kept") (xVar 1)) (xNil)))) [1]))
def a_Guard_queue : FA := fnA 1 0 (yRet (xCall bList (xCons (xFld (xVar 0) "waiting") (xNil))))
def a_Memory_check_device : FA := fnA 2 0 (yIf (xNotT (xTru (xCall a_is_within (xCons (xVar 1) (xCons (xC (.int 0)) (xCons (xOp aSub (xC (.int 2)) (xC (.int 1))) (xNil))))))) (yRaise) (yNext))
def a_Memory_journal : FA := fnA 2 0 (ySeq (yDrop (xMeth "Memory" "check_device" a_Memory_check_device (xVar 0) (xCons (xVar 1) (xNil)))) (yRet (xOp aIx (xFld (xVar 0) "journals") (xVar 1))))
def a_Memory_block : FA := fnA 3 0 (ySeq (yDrop (xMeth "Memory" "check_device" a_Memory_check_device (xVar 0) (xCons (xVar 1) (xNil)))) (ySeq (yDrop (xMeth "Memory" "check_block" a_Memory_check_block (xVar 0) (xCons (xVar 2) (xNil)))) (yRet (xOp aIx (xOp aIx (xFld (xVar 0) "stored") (xVar 1)) (xVar 2)))))
def a_Memory_log : FA := fnA 1 0 (yRet (xCall bList (xCons (xFld (xVar 0) "rows") (xNil))))
def a_is_count : FA := fnA 1 0 (yRet (xAnd (xCall bIsi (xCons (xVar 0) (xCons (xC (.ty "int")) (xNil)))) (xAnd (xNot (xCall bIsi (xCons (xVar 0) (xCons (xC (.ty "bool")) (xNil))))) (xOp aGe (xVar 0) (xC (.int 0))))))
def a_are_parts : FA := fnA 4 0 (ySeq (yIf (xOrT (xNotT (xTru (xCall a_is_within (xCons (xVar 0) (xCons (xC (.int 0)) (xCons (xOp aSub (xC (.int 4)) (xC (.int 1))) (xNil))))))) (xOrT (xNotT (xTru (xCall bIsi (xCons (xVar 1) (xCons (xC (.ty "str")) (xNil)))))) (xT (xOp aNi (xVar 1) (xC (.tup [.str "read", .str "write"])))))) (yRet (xC (.bl false))) (yNext)) (yRet (xAnd (xCall a_is_within (xCons (xVar 2) (xCons (xC (.int 0)) (xCons (xC (.int 7)) (xNil))))) (xCall a_is_count (xCons (xVar 3) (xNil))))))
def a_phase_of : FA := fnA 1 0 (yRet (xOp aSub (xC (.int 1)) (xOp aMod (xOp aDiv (xVar 0) (xC (.int 4))) (xC (.int 2)))))
def a_descriptor : FA := fnA 4 0 (ySeq (yIf (xNotT (xTru (xCall a_are_parts (xCons (xVar 0) (xCons (xVar 1) (xCons (xVar 2) (xCons (xVar 3) (xNil)))))))) (yRaise) (yNext)) (yRet (xTup (xCons (xVar 0) (xCons (xVar 1) (xCons (xVar 2) (xCons (xCall a_phase_of (xCons (xVar 3) (xNil))) (xCons (xVar 3) (xNil)))))))))
def a_slot_of : FA := fnA 1 0 (yRet (xOp aMod (xVar 0) (xC (.int 4))))
def a_completion : FA := fnA 2 0 (ySeq (yIf (xOrT (xNotT (xTru (xCall a_is_within (xCons (xVar 0) (xCons (xC (.int 0)) (xCons (xOp aSub (xC (.int 4)) (xC (.int 1))) (xNil))))))) (xNotT (xTru (xCall a_is_count (xCons (xVar 1) (xNil)))))) (yRaise) (yNext)) (yRet (xTup (xCons (xVar 0) (xCons (xC (.str "done")) (xCons (xCall a_phase_of (xCons (xVar 1) (xNil))) (xNil)))))))
def a_is_new_descriptor : FA := fnA 2 5 (ySeq (yIf (xOrT (xNotT (xTru (xCall bIsi (xCons (xVar 0) (xCons (xC (.ty "tuple")) (xNil)))))) (xT (xOp aNe (xCall bLen (xCons (xVar 0) (xNil))) (xC (.int 5))))) (yRet (xC (.bl false))) (yNext)) (ySeq (yAsg (xVar 0) (gT 5 (gConsA (gN 2) (gConsA (gN 3) (gConsA (gN 4) (gConsA (gN 5) (gConsA (gN 6) (gNilA)))))))) (ySeq (yIf (xOrT (xNotT (xTru (xCall a_are_parts (xCons (xVar 2) (xCons (xVar 3) (xCons (xVar 4) (xCons (xVar 6) (xNil)))))))) (xNotT (xTru (xCall a_is_within (xCons (xVar 5) (xCons (xC (.int 0)) (xCons (xC (.int 1)) (xNil)))))))) (yRet (xC (.bl false))) (yNext)) (yRet (xAnd (xOp aEq (xVar 5) (xCall a_phase_of (xCons (xVar 1) (xNil)))) (xOp aEq (xVar 6) (xVar 1)))))))
def a_is_new_completion : FA := fnA 2 0 (ySeq (yIf (xOrT (xNotT (xTru (xCall bIsi (xCons (xVar 0) (xCons (xC (.ty "tuple")) (xNil)))))) (xOrT (xT (xOp aNe (xCall bLen (xCons (xVar 0) (xNil))) (xC (.int 3)))) (xNotT (xTru (xCall a_is_within (xCons (xOp aIx (xVar 0) (xC (.int 0))) (xCons (xC (.int 0)) (xCons (xOp aSub (xC (.int 4)) (xC (.int 1))) (xNil))))))))) (yRet (xC (.bl false))) (yNext)) (yRet (xAnd (xOp aEq (xOp aIx (xVar 0) (xC (.int 1))) (xC (.str "done"))) (xAnd (xCall a_is_within (xCons (xOp aIx (xVar 0) (xC (.int 2))) (xCons (xC (.int 0)) (xCons (xC (.int 1)) (xNil))))) (xOp aEq (xOp aIx (xVar 0) (xC (.int 2))) (xCall a_phase_of (xCons (xVar 1) (xNil))))))))
def a_Device_init : FA := fnA 3 0 (ySeq (ySFN "Device" (xVar 0) "memory" (xVar 1)) (ySeq (ySFN "Device" (xVar 0) "device" (xVar 2)) (ySeq (ySFN "Device" (xVar 0) "generation" (xC (.int 0))) (ySeq (ySFN "Device" (xVar 0) "taken" (xC (.int 0))) (ySeq (ySFN "Device" (xVar 0) "completed" (xC (.int 0))) (ySeq (ySFN "Device" (xVar 0) "under_way" (xLst (xNil))) (ySFN "Device" (xVar 0) "pending" (xLst (xNil)))))))))
def a_reset : FA := fnA 1 0 (yRet (xOp aAdd (xCall a_doorbell (xCons (xVar 0) (xNil))) (xC (.int 1))))
def a_Device_access : FA := fnA 2 0 (yRet (xOp aIx (xMeth "Memory" "access" a_Memory_access (xFld (xVar 0) "memory") (xCons (xTup (xCons (xC (.str "device")) (xCons (xFld (xVar 0) "device") (xNil)))) (xCons (xVar 1) (xNil)))) (xC (.int 0))))
def a_ready : FA := fnA 1 0 (yRet (xOp aAdd (xCall a_doorbell (xCons (xVar 0) (xNil))) (xC (.int 2))))
def a_Device_look_for_reset : FA := fnA 1 1 (ySeq (yAsg (xMeth "Device" "access" a_Device_access (xVar 0) (xCons (xTup (xCons (xC (.str "read")) (xCons (xCall a_reset (xCons (xFld (xVar 0) "device") (xNil))) (xNil)))) (xNil))) (gN 1)) (yIf (xT (xOp aNe (xVar 1) (xFld (xVar 0) "generation"))) (ySeq (ySF (xVar 0) "generation" (xVar 1)) (ySeq (ySF (xVar 0) "taken" (xC (.int 0))) (ySeq (ySF (xVar 0) "completed" (xC (.int 0))) (ySeq (ySF (xVar 0) "under_way" (xLst (xNil))) (ySF (xVar 0) "pending" (xLst (xCons (xTup (xCons (xC (.str "write")) (xCons (xCall a_ready (xCons (xFld (xVar 0) "device") (xNil))) (xCons (xVar 1) (xNil))))) (xNil)))))))) (yNext)))
def a_buffer_page : FA := fnA 1 0 (yRet (xOp aAdd (xC (.int 2)) (xVar 0)))
def a_Device_drop : FA := fnA 2 1 (ySF (xVar 0) "under_way" (xLc (iaL (xFld (xVar 0) "under_way")) (gN 2) (xT (xOp aNe (xFld (xVar 2) "sequence") (xFld (xVar 1) "sequence"))) (xVar 2) [2]))
def a_Device_read_cell : FA := fnA 2 1 (ySeq (yAsg (xMeth "Device" "access" a_Device_access (xVar 0) (xCons (xTup (xCons (xC (.str "dma read")) (xCons (xCall a_buffer_page (xCons (xFld (xVar 1) "tag") (xNil))) (xCons (xFld (xVar 1) "moved") (xNil))))) (xNil))) (gN 2)) (ySeq (yIf (xT (xOp aIsN (xVar 2) (xC .non))) (ySeq (yDrop (xMeth "Device" "drop" a_Device_drop (xVar 0) (xCons (xVar 1) (xNil)))) (yRetN)) (yNext)) (ySeq (yDrop (xApp (xFld (xVar 1) "content") (xCons (xOp aIx (xVar 2) (xC (.int 0))) (xNil)))) (yFA (xVar 1) "moved" (xC (.int 1))))))
def a_Device_decide : FA := fnA 2 0 (ySeq (ySF (xVar 1) "is_decided" (xC (.bl true))) (yIf (xT (xOp aEq (xFld (xVar 1) "kind") (xC (.str "write")))) (yDrop (xMeth "Device" "access" a_Device_access (xVar 0) (xCons (xTup (xCons (xC (.str "commit")) (xCons (xFld (xVar 1) "block") (xCons (xCall bTuple (xCons (xFld (xVar 1) "content") (xNil))) (xCons (xFld (xVar 0) "generation") (xCons (xFld (xVar 1) "sequence") (xNil))))))) (xNil)))) (ySF (xVar 1) "content" (xCall bList (xCons (xMeth "Device" "access" a_Device_access (xVar 0) (xCons (xTup (xCons (xC (.str "fetch")) (xCons (xFld (xVar 1) "block") (xCons (xFld (xVar 0) "generation") (xCons (xFld (xVar 1) "sequence") (xNil)))))) (xNil))) (xNil))))))
def a_Device_write_cell : FA := fnA 2 0 (ySeq (yIf (xNotT (xTru (xMeth "Device" "access" a_Device_access (xVar 0) (xCons (xTup (xCons (xC (.str "dma write")) (xCons (xCall a_buffer_page (xCons (xFld (xVar 1) "tag") (xNil))) (xCons (xFld (xVar 1) "moved") (xCons (xOp aIx (xFld (xVar 1) "content") (xFld (xVar 1) "moved")) (xNil)))))) (xNil))))) (ySeq (yDrop (xMeth "Device" "drop" a_Device_drop (xVar 0) (xCons (xVar 1) (xNil)))) (yRetN)) (yNext)) (yFA (xVar 1) "moved" (xC (.int 1))))
def a_Device_complete : FA := fnA 2 1 (ySeq (yDrop (xMeth "Device" "drop" a_Device_drop (xVar 0) (xCons (xVar 1) (xNil)))) (ySeq (yAsg (xCall a_completion (xCons (xFld (xVar 1) "tag") (xCons (xFld (xVar 0) "completed") (xNil)))) (gN 2)) (yIf (xTru (xMeth "Device" "access" a_Device_access (xVar 0) (xCons (xTup (xCons (xC (.str "dma write")) (xCons (xC (.int 1)) (xCons (xCall a_slot_of (xCons (xFld (xVar 0) "completed") (xNil))) (xCons (xVar 2) (xNil)))))) (xNil)))) (ySeq (yFA (xVar 0) "completed" (xC (.int 1))) (ySF (xVar 0) "pending" (xLst (xCons (xTup (xCons (xC (.str "write")) (xCons (xCall a_interrupt (xCons (xFld (xVar 0) "device") (xNil))) (xCons (xC (.int 1)) (xNil))))) (xNil))))) (yNext))))
def a_Device_go_on : FA := fnA 2 0 (yIf (xNotT (xTru (xFld (xVar 1) "is_decided"))) (yIf (xAndT (xT (xOp aEq (xFld (xVar 1) "kind") (xC (.str "write")))) (xT (xOp aLt (xFld (xVar 1) "moved") (xC (.int 4))))) (yDrop (xMeth "Device" "read_cell" a_Device_read_cell (xVar 0) (xCons (xVar 1) (xNil)))) (yDrop (xMeth "Device" "decide" a_Device_decide (xVar 0) (xCons (xVar 1) (xNil))))) (yIf (xAndT (xT (xOp aEq (xFld (xVar 1) "kind") (xC (.str "read")))) (xT (xOp aLt (xFld (xVar 1) "moved") (xC (.int 4))))) (yDrop (xMeth "Device" "write_cell" a_Device_write_cell (xVar 0) (xCons (xVar 1) (xNil)))) (yDrop (xMeth "Device" "complete" a_Device_complete (xVar 0) (xCons (xVar 1) (xNil))))))
def a_Job_init : FA := fnA 2 0 (ySeq (ySFN "Job" (xVar 0) "descriptor" (xVar 1)) (ySeq (yAsg (xSl (xVar 1) (xNoPart) (xPart (xC (.int 3)))) (gT 3 (gConsA (gAt "Job" (xVar 0) "tag") (gConsA (gAt "Job" (xVar 0) "kind") (gConsA (gAt "Job" (xVar 0) "block") (gNilA)))))) (ySeq (ySFN "Job" (xVar 0) "sequence" (xOp aIx (xVar 1) (xC (.int 4)))) (ySeq (ySFN "Job" (xVar 0) "content" (xLst (xNil))) (ySeq (ySFN "Job" (xVar 0) "moved" (xC (.int 0))) (ySFN "Job" (xVar 0) "is_decided" (xC (.bl false))))))))
def a_Device_look_for_descriptor : FA := fnA 1 1 (ySeq (yAsg (xMeth "Device" "access" a_Device_access (xVar 0) (xCons (xTup (xCons (xC (.str "dma read")) (xCons (xC (.int 0)) (xCons (xCall a_slot_of (xCons (xFld (xVar 0) "taken") (xNil))) (xNil))))) (xNil))) (gN 1)) (yIf (xAndT (xT (xOp aNotN (xVar 1) (xC .non))) (xTru (xCall a_is_new_descriptor (xCons (xOp aIx (xVar 1) (xC (.int 0))) (xCons (xFld (xVar 0) "taken") (xNil)))))) (ySeq (yDrop (xApp (xFld (xVar 0) "under_way") (xCons (xMake "Job" a_Job_init (xCons (xOp aIx (xVar 1) (xC (.int 0))) (xNil))) (xNil)))) (yFA (xVar 0) "taken" (xC (.int 1)))) (yNext)))
def a_Device_step : FA := fnA 2 1 (ySeq (yIf (xTru (xFld (xVar 0) "pending")) (ySeq (yAsg (xOp aIx (xFld (xVar 0) "pending") (xC (.int 0))) (gN 2)) (ySeq (ySF (xVar 0) "pending" (xSl (xFld (xVar 0) "pending") (xPart (xC (.int 1))) (xNoPart))) (yDrop (xMeth "Device" "access" a_Device_access (xVar 0) (xCons (xVar 2) (xNil)))))) (yIf (xT (xOp aEq (xOp aMod (xVar 1) (xC (.int 4))) (xC (.int 0)))) (yDrop (xMeth0 "Device" "look_for_reset" a_Device_look_for_reset (xVar 0))) (yIf (xAndT (xTru (xFld (xVar 0) "under_way")) (xOrT (xT (xOp aGt (xOp aMod (xVar 1) (xC (.int 4))) (xC (.int 1)))) (xT (xOp aEq (xCall bLen (xCons (xFld (xVar 0) "under_way") (xNil))) (xC (.int 2)))))) (yDrop (xMeth "Device" "go_on" a_Device_go_on (xVar 0) (xCons (xOp aIx (xFld (xVar 0) "under_way") (xOp aMod (xOp aDiv (xVar 1) (xC (.int 4))) (xCall bLen (xCons (xFld (xVar 0) "under_way") (xNil))))) (xNil)))) (yDrop (xMeth0 "Device" "look_for_descriptor" a_Device_look_for_descriptor (xVar 0)))))) (yRet (xC (.bl true))))
def a_Device_jobs : FA := fnA 1 1 (yRet (xLc (iaL (xFld (xVar 0) "under_way")) (gN 1) (xYes) (xFld (xVar 1) "descriptor") [1]))
def a_is_integer : FA := fnA 1 0 (yRet (xAnd (xCall bIsi (xCons (xVar 0) (xCons (xC (.ty "int")) (xNil)))) (xNot (xCall bIsi (xCons (xVar 0) (xCons (xC (.ty "bool")) (xNil)))))))
def a_is_block : FA := fnA 1 0 (yRet (xAnd (xCall a_is_integer (xCons (xVar 0) (xNil))) (xChain aLe aLt (xC (.int 0)) (xVar 0) (xC (.int 8)))))
def a_are_values : FA := fnA 1 1 (yRet (xAnd (xCall bIsi (xCons (xVar 0) (xCons (xC (.ty "tuple")) (xNil)))) (xAnd (xOp aEq (xCall bLen (xCons (xVar 0) (xNil))) (xC (.int 4))) (xCall bAll (xCons (xLc (iaL (xVar 0)) (gN 1) (xYes) (xCall a_is_integer (xCons (xVar 1) (xNil))) [1]) (xNil))))))
def a_is_request : FA := fnA 1 0 (ySeq (yIf (xOrT (xNotT (xTru (xCall bIsi (xCons (xVar 0) (xCons (xC (.ty "tuple")) (xNil)))))) (xOrT (xT (xOp aLt (xCall bLen (xCons (xVar 0) (xNil))) (xC (.int 2)))) (xNotT (xTru (xCall a_is_block (xCons (xOp aIx (xVar 0) (xC (.int 1))) (xNil))))))) (yRet (xC (.bl false))) (yNext)) (ySeq (yIf (xT (xOp aEq (xOp aIx (xVar 0) (xC (.int 0))) (xC (.str "read")))) (yRet (xOp aEq (xCall bLen (xCons (xVar 0) (xNil))) (xC (.int 2)))) (yNext)) (yRet (xAnd (xOp aEq (xOp aIx (xVar 0) (xC (.int 0))) (xC (.str "write"))) (xAnd (xOp aEq (xCall bLen (xCons (xVar 0) (xNil))) (xC (.int 3))) (xCall a_are_values (xCons (xOp aIx (xVar 0) (xC (.int 2))) (xNil))))))))
def a_Driver_init : FA := fnA 5 0 (ySeq (ySFN "Driver" (xVar 0) "memory" (xVar 1)) (ySeq (ySFN "Driver" (xVar 0) "device" (xVar 2)) (ySeq (ySFN "Driver" (xVar 0) "requests" (xCall bList (xCons (xVar 3) (xNil)))) (ySeq (ySFN "Driver" (xVar 0) "without" (xVar 4)) (ySeq (ySFN "Driver" (xVar 0) "generation" (xC (.int 0))) (ySeq (ySFN "Driver" (xVar 0) "resets" (xC (.int 0))) (ySeq (ySFN "Driver" (xVar 0) "broken" (xC (.bl false))) (ySeq (ySFN "Driver" (xVar 0) "waiting" (xLRng1 (xCall bLen (xCons (xFld (xVar 0) "requests") (xNil))))) (ySeq (ySFN "Driver" (xVar 0) "sent" (xDNewK)) (ySeq (ySFN "Driver" (xVar 0) "pool" (xCall bList (xCons (xC (.tup [.int 2, .int 3, .int 4, .int 5])) (xNil)))) (ySeq (ySFN "Driver" (xVar 0) "answers" (xDNewK)) (ySeq (ySFN "Driver" (xVar 0) "firsts" (xDNewK)) (ySeq (ySFN "Driver" (xVar 0) "sendings" (xDNewK)) (ySeq (ySFN "Driver" (xVar 0) "turns" (xC (.int 0))) (ySeq (ySFN "Driver" (xVar 0) "sequence" (xC (.int 0))) (ySeq (ySFN "Driver" (xVar 0) "completions" (xC (.int 0))) (ySeq (ySFN "Driver" (xVar 0) "patience" (xC (.int 0))) (ySeq (ySFN "Driver" (xVar 0) "tries" (xC (.int 0))) (ySeq (ySFN "Driver" (xVar 0) "is_wrong" (xC (.bl false))) (ySeq (ySFN "Driver" (xVar 0) "present" (xC .non)) (ySeq (ySFN "Driver" (xVar 0) "ticket" (xC (.int 0))) (ySeq (ySFN "Driver" (xVar 0) "left" (xLst (xNil))) (ySeq (ySFN "Driver" (xVar 0) "results" (xLst (xNil))) (ySFN "Driver" (xVar 0) "state" (xC (.str "begin"))))))))))))))))))))))))))
def a_World_init : FA := fnA 3 3 (ySeq (yIf (xOrT (xNotT (xTru (xCall bIsi (xCons (xVar 1) (xCons (xC (.ty "list")) (xNil)))))) (xOrT (xT (xOp aNe (xCall bLen (xCons (xVar 1) (xNil))) (xC (.int 2)))) (xNotT (xTru (xCall a_is_within (xCons (xVar 2) (xCons (xC (.int 0)) (xCons (xC (.int 5)) (xNil))))))))) (yRaise) (yNext)) (ySeq (yFor (iaL (xVar 1)) (gN 3) (yIf (xOrT (xNotT (xTru (xCall bIsi (xCons (xVar 3) (xCons (xC (.ty "list")) (xNil)))))) (xNotT (xTru (xCall bAll (xCons (xLc (iaL (xVar 3)) (gN 5) (xYes) (xCall a_is_request (xCons (xVar 5) (xNil))) [5]) (xNil)))))) (yRaise) (yNext))) (ySeq (ySFN "World" (xVar 0) "memory" (xMake0 "Memory" a_Memory_init)) (ySeq (ySFN "World" (xVar 0) "drivers" (xLc (iaR1 (xCons (xC (.int 2)) (xNil))) (gN 4) (xYes) (xMake "Driver" a_Driver_init (xCons (xFld (xVar 0) "memory") (xCons (xVar 4) (xCons (xOp aIx (xVar 1) (xVar 4)) (xCons (xVar 2) (xNil)))))) [4])) (ySeq (ySFN "World" (xVar 0) "devices" (xLc (iaR1 (xCons (xC (.int 2)) (xNil))) (gN 4) (xYes) (xMake "Device" a_Device_init (xCons (xFld (xVar 0) "memory") (xCons (xVar 4) (xNil)))) [4])) (ySFN "World" (xVar 0) "liars" (xLst (xNil))))))))
def a_Driver_make : FA := fnA 3 0 (ySeq (ySF (xVar 0) "state" (xVar 1)) (ySeq (ySF (xVar 0) "left" (xCall bList (xCons (xVar 2) (xNil)))) (ySF (xVar 0) "results" (xLst (xNil)))))
def a_Driver_lending_requests : FA := fnA 1 0 (yRet (xLst (xCons (xTup (xCons (xC (.str "write")) (xCons (xCall a_table_word (xCons (xFld (xVar 0) "device") (xCons (xC (.int 0)) (xNil)))) (xCons (xTup (xCons (xC (.int 0)) (xCons (xC (.str "r")) (xNil)))) (xNil))))) (xCons (xTup (xCons (xC (.str "write")) (xCons (xCall a_table_word (xCons (xFld (xVar 0) "device") (xCons (xC (.int 1)) (xNil)))) (xCons (xTup (xCons (xC (.int 1)) (xCons (xC (.str "w")) (xNil)))) (xNil))))) (xNil)))))
def a_Driver_has_old : FA := fnA 1 1 (yRet (xCall bAny (xCons (xLock (xFld (xVar 0) "sent") (xLc (iaV (xFld (xVar 0) "sent")) (gN 1) (xYes) (xOp aGt (xOp aSub (xFld (xVar 0) "turns") (xFld (xVar 1) "since")) (xC (.int 200))) [1])) (xNil))))
def a_Driver_unmap_requests : FA := fnA 2 2 (ySeq (yAsg (xLc (iaL (xVar 1)) (gN 3) (xYes) (xTup (xCons (xC (.str "write")) (xCons (xCall a_table_word (xCons (xFld (xVar 0) "device") (xCons (xVar 3) (xNil)))) (xCons (xC .non) (xNil))))) [3]) (gN 2)) (yRet (xOp aAdd (xVar 2) (xLc (iaL (xVar 1)) (gN 3) (xYes) (xTup (xCons (xC (.str "command")) (xCons (xVar 3) (xNil)))) [3]))))
def a_Driver_begin_reset : FA := fnA 1 2 (ySeq (yAsg (xOp aAdd (xLst (xCons (xC (.int 0)) (xCons (xC (.int 1)) (xNil)))) (xCall bSorted (xCons (xLock (xFld (xVar 0) "sent") (xLc (iaV (xFld (xVar 0) "sent")) (gN 2) (xYes) (xFld (xVar 2) "page") [2])) (xNil)))) (gN 1)) (yDrop (xMeth "Driver" "make" a_Driver_make (xVar 0) (xCons (xC (.str "take back")) (xCons (xMeth "Driver" "unmap_requests" a_Driver_unmap_requests (xVar 0) (xCons (xVar 1) (xNil))) (xNil))))))
def a_Driver_can_send : FA := fnA 1 3 (ySeq (yIf (xOrT (xNotT (xTru (xFld (xVar 0) "waiting"))) (xT (xOp aGe (xCall bLen (xCons (xFld (xVar 0) "sent") (xNil))) (xC (.int 3))))) (yRet (xC (.bl false))) (yNext)) (ySeq (yAsg (xOp aIx (xFld (xVar 0) "requests") (xOp aIx (xFld (xVar 0) "waiting") (xC (.int 0)))) (gN 1)) (ySeq (yIf (xT (xOp aEq (xOp aIx (xVar 1) (xC (.int 0))) (xC (.str "read")))) (yRet (xC (.bl true))) (yNext)) (ySeq (yLock (xFld (xVar 0) "sent") (yAsg (xLc (iaV (xFld (xVar 0) "sent")) (gN 3) (xT (xOp aEq (xOp aIx (xFld (xVar 3) "request") (xC (.int 0))) (xC (.str "write")))) (xOp aIx (xFld (xVar 3) "request") (xC (.int 1))) [3]) (gN 2))) (yRet (xOp aNi (xOp aIx (xVar 1) (xC (.int 1))) (xVar 2)))))))
def a_Sent_init : FA := fnA 5 0 (ySeq (ySFN "Sent" (xVar 0) "index" (xVar 1)) (ySeq (ySFN "Sent" (xVar 0) "request" (xVar 2)) (ySeq (ySFN "Sent" (xVar 0) "tag" (xVar 3)) (ySeq (ySFN "Sent" (xVar 0) "frame" (xVar 4)) (ySeq (ySFN "Sent" (xVar 0) "page" (xCall a_buffer_page (xCons (xVar 3) (xNil)))) (ySeq (ySFN "Sent" (xVar 0) "generation" (xC (.int 0))) (ySeq (ySFN "Sent" (xVar 0) "sequence" (xC (.int 0))) (ySeq (ySFN "Sent" (xVar 0) "since" (xC (.int 0))) (ySFN "Sent" (xVar 0) "content" (xC .non))))))))))
def a_Driver_sending_requests : FA := fnA 2 8 (ySeq (yAsg (xFld (xVar 0) "device") (gN 2)) (ySeq (yAsg (xLc (iaR1 (xCons (xC (.int 4)) (xNil))) (gN 8) (xYes) (xCall a_frame_cell (xCons (xVar 2) (xCons (xFld (xVar 1) "frame") (xCons (xVar 8) (xNil))))) [8]) (gN 3)) (ySeq (yAsg (xLst (xNil)) (gN 4)) (ySeq (yAsg (xC (.str "w")) (gN 5)) (ySeq (yIf (xT (xOp aEq (xOp aIx (xFld (xVar 1) "request") (xC (.int 0))) (xC (.str "write")))) (ySeq (yAsg (xC (.str "r")) (gN 5)) (yAsg (xLc (iaR1 (xCons (xC (.int 4)) (xNil))) (gN 8) (xYes) (xTup (xCons (xC (.str "write")) (xCons (xOp aIx (xVar 3) (xVar 8)) (xCons (xOp aIx (xOp aIx (xFld (xVar 1) "request") (xC (.int 2))) (xVar 8)) (xNil))))) [8]) (gN 4))) (yIf (xT (xOp aNe (xFld (xVar 0) "without") (xC (.int 2)))) (yAsg (xLc (iaL (xVar 3)) (gN 9) (xYes) (xTup (xCons (xC (.str "write")) (xCons (xVar 9) (xCons (xC (.int 0)) (xNil))))) [9]) (gN 4)) (yNext))) (ySeq (yAsg (xCall a_descriptor (xCons (xFld (xVar 1) "tag") (xCons (xOp aIx (xFld (xVar 1) "request") (xC (.int 0))) (xCons (xOp aIx (xFld (xVar 1) "request") (xC (.int 1))) (xCons (xFld (xVar 1) "sequence") (xNil)))))) (gN 6)) (ySeq (yAsg (xCall a_frame_cell (xCons (xVar 2) (xCons (xC (.int 0)) (xCons (xCall a_slot_of (xCons (xFld (xVar 1) "sequence") (xNil))) (xNil))))) (gN 7)) (ySeq (yDrop (xApp (xVar 4) (xCons (xTup (xCons (xC (.str "write")) (xCons (xCall a_table_word (xCons (xVar 2) (xCons (xFld (xVar 1) "page") (xNil)))) (xCons (xTup (xCons (xFld (xVar 1) "frame") (xCons (xVar 5) (xNil)))) (xNil))))) (xNil)))) (ySeq (yDrop (xApp (xVar 4) (xCons (xTup (xCons (xC (.str "write")) (xCons (xVar 7) (xCons (xVar 6) (xNil))))) (xNil)))) (ySeq (yDrop (xApp (xVar 4) (xCons (xTup (xCons (xC (.str "write")) (xCons (xCall a_doorbell (xCons (xVar 2) (xNil))) (xCons (xOp aAdd (xFld (xVar 1) "sequence") (xC (.int 1))) (xNil))))) (xNil)))) (yRet (xVar 4))))))))))))
def a_Driver_begin_sending : FA := fnA 1 4 (ySeq (yAsg (xOp aIx (xFld (xVar 0) "waiting") (xC (.int 0))) (gN 1)) (ySeq (ySF (xVar 0) "waiting" (xSl (xFld (xVar 0) "waiting") (xPart (xC (.int 1))) (xNoPart))) (ySeq (yAsg (xOp aIx (xLc (iaR1 (xCons (xC (.int 4)) (xNil))) (gN 4) (xT (xNi (xVar 4) (xFld (xVar 0) "sent"))) (xVar 4) [4]) (xC (.int 0))) (gN 2)) (ySeq (yAsg (xOp aIx (xFld (xVar 0) "pool") (xC (.int 0))) (gN 3)) (ySeq (ySF (xVar 0) "pool" (xSl (xFld (xVar 0) "pool") (xPart (xC (.int 1))) (xNoPart))) (ySeq (yAsg (xMake "Sent" a_Sent_init (xCons (xVar 1) (xCons (xOp aIx (xFld (xVar 0) "requests") (xVar 1)) (xCons (xVar 2) (xCons (xVar 3) (xNil)))))) (gN 4)) (ySeq (ySF (xVar 4) "generation" (xFld (xVar 0) "generation")) (ySeq (ySF (xVar 4) "sequence" (xFld (xVar 0) "sequence")) (ySeq (ySF (xVar 0) "present" (xVar 4)) (ySeq (yDrop (xSetd (xFld (xVar 0) "firsts") (xVar 1) (xOp aAdd (xFld (xFld (xVar 0) "memory") "count") (xC (.int 1))))) (yDrop (xMeth "Driver" "make" a_Driver_make (xVar 0) (xCons (xC (.str "send")) (xCons (xMeth "Driver" "sending_requests" a_Driver_sending_requests (xVar 0) (xCons (xVar 4) (xNil))) (xNil)))))))))))))))
def a_Driver_choose : FA := fnA 1 0 (yIf (xT (xOp aEq (xFld (xVar 0) "state") (xC (.str "begin")))) (yDrop (xMeth "Driver" "make" a_Driver_make (xVar 0) (xCons (xC (.str "rest")) (xCons (xMeth0 "Driver" "lending_requests" a_Driver_lending_requests (xVar 0)) (xNil))))) (yIf (xTru (xFld (xVar 0) "broken")) (yRetN) (yIf (xOrT (xTru (xFld (xVar 0) "is_wrong")) (xTru (xMeth0 "Driver" "has_old" a_Driver_has_old (xVar 0)))) (yDrop (xMeth0 "Driver" "begin_reset" a_Driver_begin_reset (xVar 0))) (yIf (xTru (xMeth0 "Driver" "can_send" a_Driver_can_send (xVar 0))) (yDrop (xMeth0 "Driver" "begin_sending" a_Driver_begin_sending (xVar 0))) (yIf (xTru (xFld (xVar 0) "sent")) (yDrop (xMeth "Driver" "make" a_Driver_make (xVar 0) (xCons (xC (.str "poll")) (xCons (xLst (xCons (xTup (xCons (xC (.str "read")) (xCons (xCall a_interrupt (xCons (xFld (xVar 0) "device") (xNil))) (xNil)))) (xNil))) (xNil))))) (yNext))))))
def a_Driver_end_sending : FA := fnA 1 2 (ySeq (yAsg (xFld (xVar 0) "present") (gN 1)) (ySeq (ySF (xVar 1) "since" (xFld (xVar 0) "turns")) (ySeq (yPutK (xFld (xVar 0) "sent") (xFld (xVar 1) "tag") (xVar 1)) (ySeq (yFA (xVar 0) "sequence" (xC (.int 1))) (ySeq (yAsg (xGet2 (xFld (xVar 0) "sendings") (xFld (xVar 1) "index") (xTup (xNil))) (gN 2)) (ySeq (yPutK (xFld (xVar 0) "sendings") (xFld (xVar 1) "index") (xOp aAdd (xVar 2) (xTup (xCons (xTup (xCons (xFld (xVar 1) "generation") (xCons (xFld (xVar 1) "sequence") (xCons (xFld (xVar 1) "tag") (xCons (xFld (xVar 1) "frame") (xNil)))))) (xNil))))) (ySF (xVar 0) "state" (xC (.str "rest")))))))))
def a_Driver_slot_request : FA := fnA 1 0 (yRet (xTup (xCons (xC (.str "read")) (xCons (xCall a_frame_cell (xCons (xFld (xVar 0) "device") (xCons (xC (.int 1)) (xCons (xCall a_slot_of (xCons (xFld (xVar 0) "completions") (xNil))) (xNil))))) (xNil)))))
def a_Driver_accept_interrupt : FA := fnA 1 0 (ySeq (ySF (xVar 0) "state" (xC (.str "rest"))) (ySeq (yIf (xT (xOp aEq (xOp aIx (xFld (xVar 0) "results") (xNeg (xC (.int 1)))) (xC (.int 1)))) (ySeq (yDrop (xMeth "Driver" "make" a_Driver_make (xVar 0) (xCons (xC (.str "slot")) (xCons (xLst (xCons (xTup (xCons (xC (.str "write")) (xCons (xCall a_interrupt (xCons (xFld (xVar 0) "device") (xNil))) (xCons (xC (.int 0)) (xNil))))) (xCons (xMeth0 "Driver" "slot_request" a_Driver_slot_request (xVar 0)) (xNil)))) (xNil))))) (yRetN)) (yNext)) (ySeq (yFA (xVar 0) "patience" (xC (.int 1))) (yIf (xT (xOp aGe (xFld (xVar 0) "patience") (xC (.int 4)))) (yDrop (xMeth "Driver" "make" a_Driver_make (xVar 0) (xCons (xC (.str "slot")) (xCons (xLst (xCons (xMeth0 "Driver" "slot_request" a_Driver_slot_request (xVar 0)) (xNil))) (xNil))))) (yNext)))))
def a_has_form : FA := fnA 1 0 (yRet (xOr (xCall a_is_new_completion (xCons (xVar 0) (xCons (xC (.int 0)) (xNil)))) (xCall a_is_new_completion (xCons (xVar 0) (xCons (xC (.int 4)) (xNil))))))
def a_Driver_copy_requests : FA := fnA 2 1 (yRet (xLc (iaR1 (xCons (xC (.int 4)) (xNil))) (gN 2) (xYes) (xTup (xCons (xC (.str "read")) (xCons (xCall a_frame_cell (xCons (xFld (xVar 0) "device") (xCons (xFld (xVar 1) "frame") (xCons (xVar 2) (xNil))))) (xNil)))) [2]))
def a_Driver_begin_finishing : FA := fnA 2 0 (ySeq (ySF (xVar 0) "present" (xVar 1)) (yIf (xAndT (xT (xOp aEq (xFld (xVar 0) "without") (xC (.int 5)))) (xT (xOp aEq (xOp aIx (xFld (xVar 1) "request") (xC (.int 0))) (xC (.str "read"))))) (yDrop (xMeth "Driver" "make" a_Driver_make (xVar 0) (xCons (xC (.str "copy")) (xCons (xMeth "Driver" "copy_requests" a_Driver_copy_requests (xVar 0) (xCons (xVar 1) (xNil))) (xNil))))) (yDrop (xMeth "Driver" "make" a_Driver_make (xVar 0) (xCons (xC (.str "unmap")) (xCons (xMeth "Driver" "unmap_requests" a_Driver_unmap_requests (xVar 0) (xCons (xLst (xCons (xFld (xVar 1) "page") (xNil))) (xNil))) (xNil)))))))
def a_Driver_accept_slot : FA := fnA 2 1 (ySeq (ySF (xVar 0) "patience" (xC (.int 0))) (ySeq (ySF (xVar 0) "state" (xC (.str "rest"))) (ySeq (yAsg (xCall a_is_new_completion (xCons (xVar 1) (xCons (xFld (xVar 0) "completions") (xNil)))) (gN 2)) (ySeq (yIf (xT (xOp aEq (xFld (xVar 0) "without") (xC (.int 3)))) (yAsg (xCall a_has_form (xCons (xVar 1) (xNil))) (gN 2)) (yNext)) (yIf (xAndT (xTru (xVar 2)) (xT (xIn (xOp aIx (xVar 1) (xC (.int 0))) (xFld (xVar 0) "sent")))) (yDrop (xMeth "Driver" "begin_finishing" a_Driver_begin_finishing (xVar 0) (xCons (xOp aGet (xFld (xVar 0) "sent") (xOp aIx (xVar 1) (xC (.int 0)))) (xNil)))) (yIf (xTru (xVar 2)) (ySF (xVar 0) "is_wrong" (xC (.bl true))) (yNext)))))))
def a_Driver_finish : FA := fnA 2 1 (ySeq (yAsg (xFld (xVar 0) "present") (gN 2)) (ySeq (yPutK (xFld (xVar 0) "answers") (xFld (xVar 2) "index") (xTup (xCons (xTup (xCons (xC (.str "ok")) (xCons (xFld (xVar 2) "content") (xNil)))) (xCons (xVar 1) (xNil))))) (ySeq (yDrop (xPop1 (xFld (xVar 0) "sent") (xFld (xVar 2) "tag"))) (ySeq (ySF (xVar 0) "pool" (xCall bSorted (xCons (xOp aAdd (xFld (xVar 0) "pool") (xLst (xCons (xFld (xVar 2) "frame") (xNil)))) (xNil)))) (ySeq (yFA (xVar 0) "completions" (xC (.int 1))) (ySF (xVar 0) "state" (xC (.str "rest"))))))))
def a_Driver_end_unmapping : FA := fnA 2 1 (ySeq (yAsg (xFld (xVar 0) "present") (gN 2)) (yIf (xAndT (xT (xOp aEq (xOp aIx (xFld (xVar 2) "request") (xC (.int 0))) (xC (.str "read")))) (xT (xOp aIsN (xFld (xVar 2) "content") (xC .non)))) (yDrop (xMeth "Driver" "make" a_Driver_make (xVar 0) (xCons (xC (.str "copy")) (xCons (xMeth "Driver" "copy_requests" a_Driver_copy_requests (xVar 0) (xCons (xVar 2) (xNil))) (xNil))))) (yDrop (xMeth "Driver" "finish" a_Driver_finish (xVar 0) (xCons (xVar 1) (xNil))))))
def a_Driver_end_taking_back : FA := fnA 1 1 (ySeq (ySF (xVar 0) "pool" (xCall bSorted (xCons (xOp aAdd (xFld (xVar 0) "pool") (xLock (xFld (xVar 0) "sent") (xLc (iaV (xFld (xVar 0) "sent")) (gN 1) (xYes) (xFld (xVar 1) "frame") [1]))) (xNil)))) (yDrop (xMeth "Driver" "make" a_Driver_make (xVar 0) (xCons (xC (.str "reset")) (xCons (xLst (xCons (xTup (xCons (xC (.str "write")) (xCons (xCall a_reset (xCons (xFld (xVar 0) "device") (xNil))) (xCons (xOp aAdd (xFld (xVar 0) "generation") (xC (.int 1))) (xNil))))) (xNil))) (xNil))))))
def a_Driver_behind_wait : FA := fnA 3 0 (yIf (xT (xOp aEq (xVar 1) (xC (.str "finish")))) (yDrop (xMeth "Driver" "end_unmapping" a_Driver_end_unmapping (xVar 0) (xCons (xVar 2) (xNil)))) (yDrop (xMeth0 "Driver" "end_taking_back" a_Driver_end_taking_back (xVar 0))))
def a_Driver_wait : FA := fnA 3 0 (yIf (xT (xOp aEq (xFld (xVar 0) "without") (xC (.int 1)))) (yDrop (xMeth "Driver" "behind_wait" a_Driver_behind_wait (xVar 0) (xCons (xVar 1) (xCons (xVar 2) (xNil))))) (yDrop (xMeth "Driver" "make" a_Driver_make (xVar 0) (xCons (xVar 1) (xCons (xLst (xCons (xTup (xCons (xC (.str "read")) (xCons (xCall a_acknowledge (xCons (xFld (xVar 0) "device") (xNil))) (xNil)))) (xNil))) (xNil))))))
def a_Driver_wait_on : FA := fnA 3 0 (yIf (xT (xOp aGe (xOp aIx (xFld (xVar 0) "results") (xNeg (xC (.int 1)))) (xFld (xVar 0) "ticket"))) (yDrop (xMeth "Driver" "behind_wait" a_Driver_behind_wait (xVar 0) (xCons (xVar 1) (xCons (xVar 2) (xNil))))) (yDrop (xMeth "Driver" "make" a_Driver_make (xVar 0) (xCons (xVar 1) (xCons (xLst (xCons (xTup (xCons (xC (.str "read")) (xCons (xCall a_acknowledge (xCons (xFld (xVar 0) "device") (xNil))) (xNil)))) (xNil))) (xNil))))))
def a_Driver_accept_copy : FA := fnA 2 0 (ySeq (ySF (xFld (xVar 0) "present") "content" (xCall bTuple (xCons (xFld (xVar 0) "results") (xNil)))) (yIf (xT (xOp aEq (xFld (xVar 0) "without") (xC (.int 5)))) (yDrop (xMeth "Driver" "make" a_Driver_make (xVar 0) (xCons (xC (.str "unmap")) (xCons (xMeth "Driver" "unmap_requests" a_Driver_unmap_requests (xVar 0) (xCons (xLst (xCons (xFld (xFld (xVar 0) "present") "page") (xNil))) (xNil))) (xNil))))) (yDrop (xMeth "Driver" "finish" a_Driver_finish (xVar 0) (xCons (xVar 1) (xNil))))))
def a_Driver_give_up : FA := fnA 2 1 (ySeq (ySF (xVar 0) "broken" (xC (.bl true))) (ySeq (ySF (xVar 0) "sent" (xDNewK)) (ySeq (ySF (xVar 0) "waiting" (xLst (xNil))) (ySeq (ySF (xVar 0) "state" (xC (.str "rest"))) (yFor (iaR1 (xCons (xCall bLen (xCons (xFld (xVar 0) "requests") (xNil))) (xNil))) (gN 2) (yDrop (xSetd (xFld (xVar 0) "answers") (xVar 2) (xTup (xCons (xC (.tup [.str "broken", .non])) (xCons (xVar 1) (xNil)))))))))))
def a_Driver_accept_ready : FA := fnA 2 0 (ySeq (yFA (xVar 0) "tries" (xC (.int 1))) (yIf (xT (xOp aEq (xOp aIx (xFld (xVar 0) "results") (xNeg (xC (.int 1)))) (xOp aAdd (xFld (xVar 0) "generation") (xC (.int 1))))) (yDrop (xMeth "Driver" "make" a_Driver_make (xVar 0) (xCons (xC (.str "journal")) (xCons (xLst (xCons (xTup (xCons (xC (.str "journal")) (xNil))) (xNil))) (xNil))))) (yIf (xT (xOp aLt (xFld (xVar 0) "tries") (xC (.int 100)))) (yDrop (xMeth "Driver" "make" a_Driver_make (xVar 0) (xCons (xC (.str "ready")) (xCons (xLst (xCons (xTup (xCons (xC (.str "read")) (xCons (xCall a_ready (xCons (xFld (xVar 0) "device") (xNil))) (xNil)))) (xNil))) (xNil))))) (yDrop (xMeth "Driver" "give_up" a_Driver_give_up (xVar 0) (xCons (xVar 1) (xNil)))))))
def a_Driver_accept_journal : FA := fnA 2 8 (ySeq (yAsg (xOp aIx (xFld (xVar 0) "results") (xNeg (xC (.int 1)))) (gN 2)) (ySeq (yIf (xT (xOp aEq (xFld (xVar 0) "without") (xC (.int 4)))) (yAsg (xTup (xNil)) (gN 2)) (yNext)) (ySeq (yAsg (xLst (xNil)) (gN 3)) (ySeq (yLock (xFld (xVar 0) "sent") (yFor (iaV (xFld (xVar 0) "sent")) (gN 4) (yIf (xAndT (xT (xOp aEq (xOp aIx (xFld (xVar 4) "request") (xC (.int 0))) (xC (.str "write")))) (xT (xOp aIn (xTup (xCons (xFld (xVar 4) "generation") (xCons (xFld (xVar 4) "sequence") (xNil)))) (xVar 2)))) (yPutK (xFld (xVar 0) "answers") (xFld (xVar 4) "index") (xTup (xCons (xTup (xCons (xC (.str "ok")) (xCons (xC .non) (xNil)))) (xCons (xVar 1) (xNil))))) (yDrop (xApp (xVar 3) (xCons (xFld (xVar 4) "index") (xNil))))))) (ySeq (ySF (xVar 0) "waiting" (xOp aAdd (xCall bSorted (xCons (xVar 3) (xNil))) (xFld (xVar 0) "waiting"))) (ySeq (ySF (xVar 0) "sent" (xDNewK)) (ySeq (yAsg (xLst (xNil)) (gN 5)) (ySeq (yFor (iaT (xTup (xCons (xC (.int 0)) (xCons (xC (.int 1)) (xNil))))) (gN 6) (yAsg (xOp aAdd (xVar 5) (xLc (iaR1 (xCons (xC (.int 4)) (xNil))) (gN 9) (xYes) (xCall a_frame_cell (xCons (xFld (xVar 0) "device") (xCons (xVar 6) (xCons (xVar 9) (xNil))))) [9])) (gN 5))) (ySeq (yAsg (xOp aAdd (xLc (iaL (xVar 5)) (gN 8) (xYes) (xTup (xCons (xC (.str "write")) (xCons (xVar 8) (xCons (xC .non) (xNil))))) [8]) (xMeth0 "Driver" "lending_requests" a_Driver_lending_requests (xVar 0))) (gN 7)) (yDrop (xMeth "Driver" "make" a_Driver_make (xVar 0) (xCons (xC (.str "lend")) (xCons (xOp aAdd (xVar 7) (xLst (xCons (xTup (xCons (xC (.str "write")) (xCons (xCall a_interrupt (xCons (xFld (xVar 0) "device") (xNil))) (xCons (xC (.int 0)) (xNil))))) (xNil)))) (xNil))))))))))))))
def a_Driver_end_reset : FA := fnA 1 0 (ySeq (yFA (xVar 0) "generation" (xC (.int 1))) (ySeq (yFA (xVar 0) "resets" (xC (.int 1))) (ySeq (ySF (xVar 0) "sequence" (xC (.int 0))) (ySeq (ySF (xVar 0) "completions" (xC (.int 0))) (ySeq (ySF (xVar 0) "patience" (xC (.int 0))) (ySeq (ySF (xVar 0) "is_wrong" (xC (.bl false))) (ySF (xVar 0) "state" (xC (.str "rest")))))))))
def a_Driver_go_on_resetting : FA := fnA 2 1 (ySeq (yAsg (xFld (xVar 0) "state") (gN 2)) (yIf (xT (xOp aEq (xVar 2) (xC (.str "take back")))) (ySeq (ySF (xVar 0) "ticket" (xOp aIx (xFld (xVar 0) "results") (xNeg (xC (.int 1))))) (yDrop (xMeth "Driver" "wait" a_Driver_wait (xVar 0) (xCons (xC (.str "taking")) (xCons (xVar 1) (xNil)))))) (yIf (xT (xOp aEq (xVar 2) (xC (.str "taking")))) (yDrop (xMeth "Driver" "wait_on" a_Driver_wait_on (xVar 0) (xCons (xC (.str "taking")) (xCons (xVar 1) (xNil))))) (yIf (xT (xOp aEq (xVar 2) (xC (.str "reset")))) (ySeq (ySF (xVar 0) "tries" (xC (.int 0))) (yDrop (xMeth "Driver" "make" a_Driver_make (xVar 0) (xCons (xC (.str "ready")) (xCons (xLst (xCons (xTup (xCons (xC (.str "read")) (xCons (xCall a_ready (xCons (xFld (xVar 0) "device") (xNil))) (xNil)))) (xNil))) (xNil)))))) (yIf (xT (xOp aEq (xVar 2) (xC (.str "ready")))) (yDrop (xMeth "Driver" "accept_ready" a_Driver_accept_ready (xVar 0) (xCons (xVar 1) (xNil)))) (yIf (xT (xOp aEq (xVar 2) (xC (.str "journal")))) (yDrop (xMeth "Driver" "accept_journal" a_Driver_accept_journal (xVar 0) (xCons (xVar 1) (xNil)))) (yIf (xT (xOp aEq (xVar 2) (xC (.str "lend")))) (yDrop (xMeth0 "Driver" "end_reset" a_Driver_end_reset (xVar 0))) (ySF (xVar 0) "state" (xC (.str "rest"))))))))))
def a_Driver_go_on : FA := fnA 2 1 (ySeq (yAsg (xFld (xVar 0) "state") (gN 2)) (yIf (xT (xOp aEq (xVar 2) (xC (.str "send")))) (yDrop (xMeth0 "Driver" "end_sending" a_Driver_end_sending (xVar 0))) (yIf (xT (xOp aEq (xVar 2) (xC (.str "poll")))) (yDrop (xMeth0 "Driver" "accept_interrupt" a_Driver_accept_interrupt (xVar 0))) (yIf (xT (xOp aEq (xVar 2) (xC (.str "slot")))) (yDrop (xMeth "Driver" "accept_slot" a_Driver_accept_slot (xVar 0) (xCons (xOp aIx (xFld (xVar 0) "results") (xNeg (xC (.int 1)))) (xNil)))) (yIf (xT (xOp aEq (xVar 2) (xC (.str "unmap")))) (ySeq (ySF (xVar 0) "ticket" (xOp aIx (xFld (xVar 0) "results") (xNeg (xC (.int 1))))) (yDrop (xMeth "Driver" "wait" a_Driver_wait (xVar 0) (xCons (xC (.str "finish")) (xCons (xVar 1) (xNil)))))) (yIf (xT (xOp aEq (xVar 2) (xC (.str "finish")))) (yDrop (xMeth "Driver" "wait_on" a_Driver_wait_on (xVar 0) (xCons (xC (.str "finish")) (xCons (xVar 1) (xNil))))) (yIf (xT (xOp aEq (xVar 2) (xC (.str "copy")))) (yDrop (xMeth "Driver" "accept_copy" a_Driver_accept_copy (xVar 0) (xCons (xVar 1) (xNil)))) (yDrop (xMeth "Driver" "go_on_resetting" a_Driver_go_on_resetting (xVar 0) (xCons (xVar 1) (xNil)))))))))))
def a_Driver_step : FA := fnA 1 2 (ySeq (yIf (xNotT (xTru (xFld (xVar 0) "left"))) (yDrop (xMeth0 "Driver" "choose" a_Driver_choose (xVar 0))) (yNext)) (ySeq (yIf (xNotT (xTru (xFld (xVar 0) "left"))) (yRet (xC (.bl false))) (yNext)) (ySeq (yAsg (xMeth "Memory" "access" a_Memory_access (xFld (xVar 0) "memory") (xCons (xTup (xCons (xC (.str "driver")) (xCons (xFld (xVar 0) "device") (xNil)))) (xCons (xOp aIx (xFld (xVar 0) "left") (xC (.int 0))) (xNil)))) (gT 2 (gConsA (gN 1) (gConsA (gN 2) (gNilA))))) (ySeq (yFA (xVar 0) "turns" (xC (.int 1))) (ySeq (ySF (xVar 0) "left" (xSl (xFld (xVar 0) "left") (xPart (xC (.int 1))) (xNoPart))) (ySeq (yDrop (xApp (xFld (xVar 0) "results") (xCons (xVar 1) (xNil)))) (ySeq (yIf (xNotT (xTru (xFld (xVar 0) "left"))) (yDrop (xMeth "Driver" "go_on" a_Driver_go_on (xVar 0) (xCons (xVar 2) (xNil)))) (yNext)) (yRet (xC (.bl true))))))))))
def a_World_is_liar : FA := fnA 2 0 (yRet (xOp aIn (xVar 1) (xFld (xVar 0) "liars")))
def a_World__device : FA := fnA 3 0 (ySeq (yIf (xTru (xMeth "World" "is_liar" a_World_is_liar (xVar 0) (xCons (xVar 1) (xNil)))) (yRet (xC (.bl false))) (yNext)) (yRet (xMeth "Device" "step" a_Device_step (xOp aIx (xFld (xVar 0) "devices") (xVar 1)) (xCons (xVar 2) (xNil)))))
def a_World__is_lie : FA := fnA 3 0 (ySeq (yIf (xOrT (xNotT (xTru (xCall bIsi (xCons (xVar 2) (xCons (xC (.ty "tuple")) (xNil)))))) (xOrT (xT (xOp aEq (xCall bLen (xCons (xVar 2) (xNil))) (xC (.int 0)))) (xT (xOp aNi (xOp aIx (xVar 2) (xC (.int 0))) (xC (.tup [.str "dma read", .str "dma write", .str "fetch", .str "commit", .str "tell", .str "write"])))))) (yRet (xC (.bl false))) (yNext)) (ySeq (yIf (xT (xOp aEq (xOp aIx (xVar 2) (xC (.int 0))) (xC (.str "write")))) (yRet (xAnd (xOp aEq (xCall bLen (xCons (xVar 2) (xNil))) (xC (.int 3))) (xOp aIn (xOp aIx (xVar 2) (xC (.int 1))) (xTup (xCons (xCall a_ready (xCons (xVar 1) (xNil))) (xCons (xCall a_interrupt (xCons (xVar 1) (xNil))) (xNil))))))) (yNext)) (yRet (xC (.bl true)))))
def a_World__lie : FA := fnA 3 0 (ySeq (yIf (xNotT (xTru (xMeth "World" "_is_lie" a_World__is_lie (xVar 0) (xCons (xVar 1) (xCons (xVar 2) (xNil)))))) (yRet (xC (.bl false))) (yNext)) (ySeq (yTry (yDrop (xMeth "Memory" "access" a_Memory_access (xFld (xVar 0) "memory") (xCons (xTup (xCons (xC (.str "device")) (xCons (xVar 1) (xNil)))) (xCons (xVar 2) (xNil))))) (yRet (xC (.bl false)))) (ySeq (yIf (xT (xOp aNi (xVar 1) (xFld (xVar 0) "liars"))) (yDrop (xApp (xFld (xVar 0) "liars") (xCons (xVar 1) (xNil)))) (yNext)) (yRet (xC (.bl true))))))
def a_World__act : FA := fnA 2 1 (ySeq (yAsg (xOp aIx (xVar 1) (xC (.int 1))) (gN 2)) (ySeq (yIf (xNotT (xTru (xCall a_is_within (xCons (xVar 2) (xCons (xC (.int 0)) (xCons (xOp aSub (xC (.int 2)) (xC (.int 1))) (xNil))))))) (yRet (xC (.bl false))) (yNext)) (ySeq (yIf (xT (xOp aEq (xOp aIx (xVar 1) (xC (.int 0))) (xC (.str "driver")))) (yRet (xMeth0 "Driver" "step" a_Driver_step (xOp aIx (xFld (xVar 0) "drivers") (xVar 2)))) (yNext)) (ySeq (yIf (xT (xOp aEq (xOp aIx (xVar 1) (xC (.int 0))) (xC (.str "device")))) (yRet (xMeth "World" "_device" a_World__device (xVar 0) (xCons (xVar 2) (xCons (xOp aIx (xVar 1) (xC (.int 2))) (xNil))))) (yNext)) (ySeq (yIf (xT (xOp aEq (xOp aIx (xVar 1) (xC (.int 0))) (xC (.str "guard")))) (ySeq (yIf (xNotT (xTru (xMeth0 "Guard" "queue" a_Guard_queue (xOp aIx (xFld (xFld (xVar 0) "memory") "guards") (xVar 2))))) (yRet (xC (.bl false))) (yNext)) (ySeq (yDrop (xMeth "Memory" "access" a_Memory_access (xFld (xVar 0) "memory") (xCons (xTup (xCons (xC (.str "guard")) (xCons (xVar 2) (xNil)))) (xCons (xTup (xCons (xC (.str "drop")) (xNil))) (xNil))))) (yRet (xC (.bl true))))) (yNext)) (yRet (xMeth "World" "_lie" a_World__lie (xVar 0) (xCons (xVar 2) (xCons (xOp aIx (xVar 1) (xC (.int 2))) (xNil))))))))))
def a_World_play : FA := fnA 2 1 (yRet (xLc (iaL (xVar 1)) (gN 2) (xYes) (xMeth "World" "_act" a_World__act (xVar 0) (xCons (xVar 2) (xNil))) [2]))
def a_Driver_is_done : FA := fnA 1 0 (yRet (xOp aEq (xCall bLen (xCons (xFld (xVar 0) "answers") (xNil))) (xCall bLen (xCons (xFld (xVar 0) "requests") (xNil)))))
def a_Driver_under_way : FA := fnA 1 1 (yRet (xLc (iaL (xCall bSorted (xCons (xFld (xVar 0) "sent") (xNil)))) (gN 1) (xYes) (xTup (xCons (xVar 1) (xCons (xFld (xOp aGet (xFld (xVar 0) "sent") (xVar 1)) "index") (xCons (xFld (xOp aGet (xFld (xVar 0) "sent") (xVar 1)) "frame") (xNil))))) [1]))
def a_Driver_free_frames : FA := fnA 1 0 (yRet (xCall bList (xCons (xFld (xVar 0) "pool") (xNil))))
def a_Driver_rows : FA := fnA 1 5 (ySeq (yAsg (xLst (xNil)) (gN 1)) (ySeq (yFor (iaL (xCall bSorted (xCons (xFld (xVar 0) "firsts") (xNil)))) (gN 2) (ySeq (yAsg (xGet2 (xFld (xVar 0) "answers") (xVar 2) (xTup (xCons (xC .non) (xCons (xC .non) (xNil))))) (gT 2 (gConsA (gN 4) (gConsA (gN 5) (gNilA))))) (ySeq (yAsg (xGet2 (xFld (xVar 0) "sendings") (xVar 2) (xTup (xNil))) (gN 3)) (yDrop (xApp (xVar 1) (xCons (xTup (xCons (xVar 2) (xCons (xOp aIx (xFld (xVar 0) "requests") (xVar 2)) (xCons (xVar 4) (xCons (xOp aGet (xFld (xVar 0) "firsts") (xVar 2)) (xCons (xVar 5) (xCons (xVar 3) (xNil)))))))) (xNil))))))) (yRet (xVar 1))))
end RaP
namespace Ra19
open PySem PySem.Spec PyProof.Rows L2 Rb RA RaP
def a_law_driver : FA := fnA 2 0 (yDrop (xMeth "Memory" "access" a_Memory_access (xVar 0) (xCons (xTup (xCons (xC (.str "driver")) (xCons (xC (.int 0)) (xNil)))) (xCons (xVar 1) (xNil)))))
def a_law_begin : FA := fnA 1 0 (ySeq (yDrop (xCall a_law_driver (xCons (xVar 0) (xCons (xTup (xCons (xC (.str "write")) (xCons (xCall a_table_word (xCons (xC (.int 0)) (xCons (xC (.int 0)) (xNil)))) (xCons (xTup (xCons (xC (.int 0)) (xCons (xC (.str "r")) (xNil)))) (xNil))))) (xNil))))) (yDrop (xCall a_law_driver (xCons (xVar 0) (xCons (xTup (xCons (xC (.str "write")) (xCons (xCall a_table_word (xCons (xC (.int 0)) (xCons (xC (.int 1)) (xNil)))) (xCons (xTup (xCons (xC (.int 1)) (xCons (xC (.str "w")) (xNil)))) (xNil))))) (xNil))))))
def a_law_next : FA := fnA 2 2 (ySeq (yAsg (xOp aIx (xVar 0) (xC (.int 2))) (gN 2)) (ySeq (yIf (xT (xOp aGt (xVar 2) (xC (.int 0)))) (ySeq (yAsg (xOp aDiv (xVar 2) (xVar 1)) (gSb (xVar 0) (xC (.int 2)))) (yRet (xOp aMod (xCall bInt (xCons (xVar 2) (xNil))) (xVar 1)))) (yNext)) (ySeq (yAsg (xC (.int 0)) (gN 3)) (ySeq (yIf (xT (xOp aLt (xOp aIx (xVar 0) (xC (.int 1))) (xCall bLen (xCons (xOp aIx (xVar 0) (xC (.int 0))) (xNil))))) (ySeq (yAsg (xCall bAbs (xCons (xOp aIx (xOp aIx (xVar 0) (xC (.int 0))) (xOp aIx (xVar 0) (xC (.int 1)))) (xNil))) (gN 3)) (yAugS (xVar 0) (xC (.int 1)) (xC (.int 1)))) (yNext)) (ySeq (yIf (xT (xOp aGe (xVar 3) (xOp aPow (xC (.int 10)) (xC (.int 18))))) (ySeq (yAsg (xOp aDiv (xVar 3) (xVar 1)) (gSb (xVar 0) (xC (.int 2)))) (yRet (xOp aMod (xCall bInt (xCons (xVar 3) (xNil))) (xVar 1)))) (yNext)) (ySeq (yAsg (xOp aMod (xCall bInt (xCons (xOp aAdd (xOp aAdd (xOp aMul (xOp aIx (xVar 0) (xC (.int 3))) (xC (.int 48271))) (xOp aMul (xVar 3) (xC (.int 69621)))) (xC (.int 11))) (xNil))) (xC (.int 2147483647))) (gSb (xVar 0) (xC (.int 3)))) (yRet (xOp aMod (xCall bInt (xCons (xOp aDiv (xOp aMod (xOp aMul (xOp aIx (xVar 0) (xC (.int 3))) (xC (.int 16807))) (xC (.int 2147483647))) (xC (.int 7))) (xNil))) (xVar 1)))))))))
def a_law_describe : FA := fnA 3 5 (ySeq (yAsg (xOp aMod (xVar 2) (xC (.int 4))) (gN 3)) (ySeq (yAsg (xOp aIx (xTup (xCons (xC (.str "read")) (xCons (xC (.str "write")) (xNil)))) (xCall a_law_next (xCons (xVar 0) (xCons (xC (.int 2)) (xNil))))) (gN 4)) (ySeq (yAsg (xOp aIx (xTup (xCons (xC (.str "w")) (xCons (xC (.str "r")) (xNil)))) (xCall bInt (xCons (xOp aEq (xVar 4) (xC (.str "write"))) (xNil)))) (gN 5)) (ySeq (yFor (iaR1 (xCons (xC (.int 4)) (xNil))) (gN 6) (yDrop (xCall a_law_driver (xCons (xVar 1) (xCons (xTup (xCons (xC (.str "write")) (xCons (xCall a_frame_cell (xCons (xC (.int 0)) (xCons (xOp aAdd (xC (.int 2)) (xVar 3)) (xCons (xVar 6) (xNil))))) (xCons (xOp aSub (xCall a_law_next (xCons (xVar 0) (xCons (xC (.int 90)) (xNil)))) (xC (.int 9))) (xNil))))) (xNil)))))) (ySeq (yDrop (xCall a_law_driver (xCons (xVar 1) (xCons (xTup (xCons (xC (.str "write")) (xCons (xCall a_table_word (xCons (xC (.int 0)) (xCons (xOp aAdd (xC (.int 2)) (xVar 3)) (xNil)))) (xCons (xTup (xCons (xOp aAdd (xC (.int 2)) (xVar 3)) (xCons (xVar 5) (xNil)))) (xNil))))) (xNil))))) (ySeq (yDrop (xCall a_law_driver (xCons (xVar 1) (xCons (xTup (xCons (xC (.str "command")) (xCons (xOp aAdd (xC (.int 2)) (xVar 3)) (xNil)))) (xNil))))) (ySeq (yDrop (xMeth "Memory" "access" a_Memory_access (xVar 1) (xCons (xTup (xCons (xC (.str "guard")) (xCons (xC (.int 0)) (xNil)))) (xCons (xTup (xCons (xC (.str "drop")) (xNil))) (xNil))))) (ySeq (yAsg (xTup (xCons (xVar 3) (xCons (xVar 4) (xCons (xCall a_law_next (xCons (xVar 0) (xCons (xC (.int 8)) (xNil)))) (xCons (xOp aSub (xC (.int 1)) (xOp aMod (xOp aDiv (xVar 2) (xC (.int 4))) (xC (.int 2)))) (xCons (xVar 2) (xNil))))))) (gN 7)) (yDrop (xCall a_law_driver (xCons (xVar 1) (xCons (xTup (xCons (xC (.str "write")) (xCons (xCall a_frame_cell (xCons (xC (.int 0)) (xCons (xC (.int 0)) (xCons (xOp aMod (xVar 2) (xC (.int 4))) (xNil))))) (xCons (xVar 7) (xNil))))) (xNil)))))))))))))
def a_law_wish : FA := fnA 2 7 (ySeq (yIf (xT (xOp aNeE (xOp aGet (xVar 0) (xC (.str "pending"))) (xLst (xNil)))) (yRet (xOp aIx (xOp aGet (xVar 0) (xC (.str "pending"))) (xC (.int 0)))) (yNext)) (ySeq (yAsg (xOp aGet (xVar 0) (xC (.str "jobs"))) (gN 2)) (ySeq (yIf (xT (xOp aEq (xOp aMod (xVar 1) (xC (.int 4))) (xC (.int 0)))) (yRet (xTup (xCons (xC (.str "read")) (xCons (xCall a_reset (xCons (xC (.int 0)) (xNil))) (xNil))))) (yNext)) (ySeq (yIf (xOrT (xT (xOp aEqE (xVar 2) (xLst (xNil)))) (xAndT (xT (xOp aEq (xOp aMod (xVar 1) (xC (.int 4))) (xC (.int 1)))) (xT (xOp aLt (xCall bLen (xCons (xVar 2) (xNil))) (xC (.int 2)))))) (yRet (xTup (xCons (xC (.str "dma read")) (xCons (xC (.int 0)) (xCons (xOp aMod (xOp aGet (xVar 0) (xC (.str "taken"))) (xC (.int 4))) (xNil)))))) (yNext)) (ySeq (yAsg (xOp aIx (xVar 2) (xOp aMod (xOp aDiv (xVar 1) (xC (.int 4))) (xCall bLen (xCons (xVar 2) (xNil))))) (gN 3)) (ySeq (yAsg (xOp aGet (xVar 3) (xC (.str "entry"))) (gT 5 (gConsA (gN 4) (gConsA (gN 5) (gConsA (gN 6) (gConsA (gN 7) (gConsA (gN 8) (gNilA)))))))) (ySeq (yIf (xNotT (xTru (xOp aGet (xVar 3) (xC (.str "decided"))))) (ySeq (yIf (xAndT (xT (xOp aEq (xVar 5) (xC (.str "write")))) (xT (xOp aLt (xOp aGet (xVar 3) (xC (.str "moved"))) (xC (.int 4))))) (yRet (xTup (xCons (xC (.str "dma read")) (xCons (xOp aAdd (xC (.int 2)) (xVar 4)) (xCons (xOp aGet (xVar 3) (xC (.str "moved"))) (xNil)))))) (yNext)) (ySeq (yIf (xT (xOp aEq (xVar 5) (xC (.str "write")))) (yRet (xTup (xCons (xC (.str "commit")) (xCons (xVar 6) (xCons (xCall bTuple (xCons (xOp aGet (xVar 3) (xC (.str "cells"))) (xNil))) (xCons (xOp aGet (xVar 0) (xC (.str "generation"))) (xCons (xVar 8) (xNil)))))))) (yNext)) (yRet (xTup (xCons (xC (.str "fetch")) (xCons (xVar 6) (xCons (xOp aGet (xVar 0) (xC (.str "generation"))) (xCons (xVar 8) (xNil))))))))) (yNext)) (ySeq (yIf (xAndT (xT (xOp aEq (xVar 5) (xC (.str "read")))) (xT (xOp aLt (xOp aGet (xVar 3) (xC (.str "moved"))) (xC (.int 4))))) (yRet (xTup (xCons (xC (.str "dma write")) (xCons (xOp aAdd (xC (.int 2)) (xVar 4)) (xCons (xOp aGet (xVar 3) (xC (.str "moved"))) (xCons (xOp aIx (xOp aGet (xVar 3) (xC (.str "cells"))) (xOp aGet (xVar 3) (xC (.str "moved")))) (xNil))))))) (yNext)) (yRet (xTup (xCons (xC (.str "dma write")) (xCons (xC (.int 1)) (xCons (xOp aMod (xOp aGet (xVar 0) (xC (.str "done"))) (xC (.int 4))) (xCons (xTup (xCons (xVar 4) (xCons (xC (.str "done")) (xCons (xOp aSub (xC (.int 1)) (xOp aMod (xOp aDiv (xOp aGet (xVar 0) (xC (.str "done"))) (xC (.int 4))) (xC (.int 2)))) (xNil))))) (xNil)))))))))))))))
def a_law_taken : FA := fnA 2 1 (ySeq (yIf (xOrT (xT (xOp aIsN (xVar 1) (xC .non))) (xOrT (xNotT (xTru (xCall bIsi (xCons (xOp aIx (xVar 1) (xC (.int 0))) (xCons (xC (.ty "tuple")) (xNil)))))) (xT (xOp aNe (xCall bLen (xCons (xOp aIx (xVar 1) (xC (.int 0))) (xNil))) (xC (.int 5)))))) (yRetN) (yNext)) (ySeq (yAsg (xOp aIx (xVar 1) (xC (.int 0))) (gN 2)) (yIf (xAndT (xT (xOp aEq (xOp aIx (xVar 2) (xC (.int 4))) (xOp aGet (xVar 0) (xC (.str "taken"))))) (xT (xOp aEq (xOp aIx (xVar 2) (xC (.int 3))) (xOp aSub (xC (.int 1)) (xOp aMod (xOp aDiv (xOp aGet (xVar 0) (xC (.str "taken"))) (xC (.int 4))) (xC (.int 2))))))) (ySeq (yPutK (xVar 0) (xC (.str "jobs")) (xOp aAdd (xOp aGet (xVar 0) (xC (.str "jobs"))) (xLst (xCons (xDisp [(.inr "entry", xVar 2), (.inr "decided", xC (.bl false)), (.inr "moved", xC (.int 0)), (.inr "cells", xLst (xNil))]) (xNil))))) (yPutK (xVar 0) (xC (.str "taken")) (xOp aAdd (xOp aGet (xVar 0) (xC (.str "taken"))) (xC (.int 1))))) (yNext))))
def a_law_moved : FA := fnA 4 1 (ySeq (yIf (xT (xOp aIn (xOp aIx (xVar 2) (xC (.int 0))) (xTup (xCons (xC (.str "commit")) (xCons (xC (.str "fetch")) (xNil)))))) (ySeq (yPutK (xVar 1) (xC (.str "decided")) (xC (.bl true))) (ySeq (yIf (xT (xOp aEq (xOp aIx (xVar 2) (xC (.int 0))) (xC (.str "fetch")))) (yPutK (xVar 1) (xC (.str "cells")) (xCall bList (xCons (xVar 3) (xNil)))) (yNext)) (yRetN))) (yNext)) (ySeq (yIf (xOrT (xT (xOp aEq (xSl (xVar 2) (xNoPart) (xPart (xC (.int 2)))) (xTup (xCons (xC (.str "dma write")) (xCons (xC (.int 1)) (xNil)))))) (xOrT (xT (xOp aIsN (xVar 3) (xC .non))) (xT (xOp aIsB2 (xVar 3) (xC (.bl false)))))) (ySeq (yPutK (xVar 0) (xC (.str "jobs")) (xLc (iaL (xOp aGet (xVar 0) (xC (.str "jobs")))) (gN 4) (xT (xOp aNe (xOp aGet (xVar 4) (xC (.str "entry"))) (xOp aGet (xVar 1) (xC (.str "entry"))))) (xVar 4) [4])) (ySeq (yIf (xAndT (xT (xOp aEq (xSl (xVar 2) (xNoPart) (xPart (xC (.int 2)))) (xTup (xCons (xC (.str "dma write")) (xCons (xC (.int 1)) (xNil)))))) (xT (xOp aIsB2 (xVar 3) (xC (.bl true))))) (ySeq (yPutK (xVar 0) (xC (.str "done")) (xOp aAdd (xOp aGet (xVar 0) (xC (.str "done"))) (xC (.int 1)))) (yPutK (xVar 0) (xC (.str "pending")) (xLst (xCons (xTup (xCons (xC (.str "write")) (xCons (xCall a_interrupt (xCons (xC (.int 0)) (xNil))) (xCons (xC (.int 1)) (xNil))))) (xNil))))) (yNext)) (yRetN))) (yNext)) (ySeq (yIf (xT (xOp aEq (xOp aIx (xVar 2) (xC (.int 0))) (xC (.str "dma read")))) (yDrop (xApp (xOp aGet (xVar 1) (xC (.str "cells"))) (xCons (xOp aIx (xVar 3) (xC (.int 0))) (xNil)))) (yNext)) (yPutK (xVar 1) (xC (.str "moved")) (xOp aAdd (xOp aGet (xVar 1) (xC (.str "moved"))) (xC (.int 1)))))))
def a_law_behind : FA := fnA 4 1 (ySeq (yAsg (xOp aGet (xVar 0) (xC (.str "jobs"))) (gN 4)) (yIf (xT (xOp aNeE (xOp aGet (xVar 0) (xC (.str "pending"))) (xLst (xNil)))) (yPutK (xVar 0) (xC (.str "pending")) (xLst (xNil))) (yIf (xT (xOp aEq (xOp aIx (xVar 2) (xC (.int 0))) (xC (.str "read")))) (yIf (xT (xOp aNe (xVar 3) (xOp aGet (xVar 0) (xC (.str "generation"))))) (ySeq (yPutK (xVar 0) (xC (.str "generation")) (xVar 3)) (ySeq (yPutK (xVar 0) (xC (.str "taken")) (xC (.int 0))) (ySeq (yPutK (xVar 0) (xC (.str "done")) (xC (.int 0))) (ySeq (yPutK (xVar 0) (xC (.str "jobs")) (xLst (xNil))) (yPutK (xVar 0) (xC (.str "pending")) (xLst (xCons (xTup (xCons (xC (.str "write")) (xCons (xCall a_ready (xCons (xC (.int 0)) (xNil))) (xCons (xVar 3) (xNil))))) (xNil)))))))) (yNext)) (yIf (xT (xOp aEq (xSl (xVar 2) (xNoPart) (xPart (xC (.int 2)))) (xTup (xCons (xC (.str "dma read")) (xCons (xC (.int 0)) (xNil)))))) (yDrop (xCall a_law_taken (xCons (xVar 0) (xCons (xVar 3) (xNil))))) (yDrop (xCall a_law_moved (xCons (xVar 0) (xCons (xOp aIx (xVar 4) (xOp aMod (xOp aDiv (xVar 1) (xC (.int 4))) (xCall bLen (xCons (xVar 4) (xNil))))) (xCons (xVar 2) (xCons (xVar 3) (xNil)))))))))))
def a_law : FA := fnA 1 15 (ySeq (yAsg (xLst (xCons (xCall bList (xCons (xVar 0) (xNil))) (xCons (xC (.int 0)) (xCons (xC (.int 0)) (xCons (xC (.int 5)) (xNil)))))) (gN 1)) (ySeq (yAsg (xMake0 "Memory" a_Memory_init) (gN 2)) (ySeq (yAsg (xMake "Device" a_Device_init (xCons (xVar 2) (xCons (xC (.int 0)) (xNil)))) (gN 3)) (ySeq (yDrop (xCall a_law_begin (xCons (xVar 2) (xNil)))) (ySeq (yAsg (xDisp [(.inr "generation", xC (.int 0)), (.inr "taken", xC (.int 0)), (.inr "done", xC (.int 0)), (.inr "jobs", xLst (xNil)), (.inr "pending", xLst (xNil))]) (gN 4)) (ySeq (yAsg (xC (.int 0)) (gN 5)) (ySeq (yFor (iaR1 (xCons (xOp aIx (xTup (xCons (xC (.int 10)) (xCons (xC (.int 30)) (xCons (xC (.int 90)) (xNil))))) (xCall a_law_next (xCons (xVar 1) (xCons (xC (.int 3)) (xNil))))) (xNil))) (gN 6) (ySeq (yAsg (xCall a_law_next (xCons (xVar 1) (xCons (xC (.int 12)) (xNil)))) (gN 7)) (ySeq (yIf (xAndT (xT (xOp aLt (xVar 7) (xC (.int 3)))) (xAndT (xT (xOp aLt (xVar 5) (xC (.int 8)))) (xT (xOp aLt (xVar 5) (xOp aAdd (xOp aGet (xVar 4) (xC (.str "done"))) (xC (.int 3))))))) (ySeq (yDrop (xCall a_law_describe (xCons (xVar 1) (xCons (xVar 2) (xCons (xVar 5) (xNil)))))) (yAsg (xOp aAdd (xVar 5) (xC (.int 1))) (gN 5))) (yNext)) (ySeq (yIf (xAndT (xT (xOp aEq (xVar 7) (xC (.int 3)))) (xT (xOp aEq (xCall a_law_next (xCons (xVar 1) (xCons (xC (.int 4)) (xNil)))) (xC (.int 0))))) (yDrop (xCall a_law_driver (xCons (xVar 2) (xCons (xTup (xCons (xC (.str "write")) (xCons (xCall a_table_word (xCons (xC (.int 0)) (xCons (xOp aAdd (xC (.int 2)) (xCall a_law_next (xCons (xVar 1) (xCons (xC (.int 4)) (xNil))))) (xNil)))) (xCons (xC .non) (xNil))))) (xNil))))) (yNext)) (ySeq (yIf (xAndT (xT (xOp aEq (xVar 7) (xC (.int 4)))) (xT (xOp aEq (xCall a_law_next (xCons (xVar 1) (xCons (xC (.int 12)) (xNil)))) (xC (.int 0))))) (yDrop (xCall a_law_driver (xCons (xVar 2) (xCons (xTup (xCons (xC (.str "write")) (xCons (xCall a_reset (xCons (xC (.int 0)) (xNil))) (xCons (xOp aAdd (xOp aGet (xVar 4) (xC (.str "generation"))) (xC (.int 1))) (xNil))))) (xNil))))) (yNext)) (ySeq (yAsg (xCall a_law_next (xCons (xVar 1) (xCons (xC (.int 16)) (xNil)))) (gN 8)) (ySeq (yAsg (xCall a_law_wish (xCons (xVar 4) (xCons (xVar 8) (xNil)))) (gN 9)) (ySeq (yAsg (xFld (xVar 2) "count") (gN 10)) (ySeq (yIf (xOrT (xT (xOp aNotB (xMeth "Device" "step" a_Device_step (xVar 3) (xCons (xVar 8) (xNil))) (xC (.bl true)))) (xT (xOp aNe (xFld (xVar 2) "count") (xOp aAdd (xVar 10) (xC (.int 1)))))) (yRet (xC (.bl false))) (yNext)) (ySeq (yAsg (xOp aIx (xMeth0 "Memory" "log" a_Memory_log (xVar 2)) (xNeg (xC (.int 1)))) (gT 4 (gConsA (gN 11) (gConsA (gN 12) (gConsA (gN 13) (gConsA (gN 14) (gNilA))))))) (ySeq (yIf (xOrT (xT (xOp aNe (xVar 12) (xTup (xCons (xC (.str "device")) (xCons (xC (.int 0)) (xNil)))))) (xT (xOp aNe (xVar 13) (xVar 9)))) (yRet (xC (.bl false))) (yNext)) (ySeq (yDrop (xCall a_law_behind (xCons (xVar 4) (xCons (xVar 8) (xCons (xVar 13) (xCons (xVar 14) (xNil))))))) (ySeq (yIf (xT (xOp aNe (xMeth0 "Device" "jobs" a_Device_jobs (xVar 3)) (xLc (iaL (xOp aGet (xVar 4) (xC (.str "jobs")))) (gN 15) (xYes) (xOp aGet (xVar 15) (xC (.str "entry"))) [15]))) (yRet (xC (.bl false))) (yNext)) (yIf (xT (xOp aNe (xTup (xCons (xFld (xVar 3) "generation") (xCons (xFld (xVar 3) "taken") (xCons (xFld (xVar 3) "completed") (xNil))))) (xTup (xCons (xOp aGet (xVar 4) (xC (.str "generation"))) (xCons (xOp aGet (xVar 4) (xC (.str "taken"))) (xCons (xOp aGet (xVar 4) (xC (.str "done"))) (xNil))))))) (yRet (xC (.bl false))) (yNext))))))))))))))) (yRet (xC (.bl true))))))))))
theorem so_0 : PyData.strOk (Str.ofString "done") = true := by decide +kernel
theorem so_1 : PyData.strOk (Str.ofString "write") = true := by decide +kernel
theorem so_2 : PyData.strOk (Str.ofString "generation") = true := by decide +kernel
theorem so_3 : PyData.strOk (Str.ofString "device") = true := by decide +kernel
theorem so_4 : PyData.strOk (Str.ofString "jobs") = true := by decide +kernel
theorem so_5 : PyData.strOk (Str.ofString "entry") = true := by decide +kernel
theorem so_6 : PyData.strOk (Str.ofString "taken") = true := by decide +kernel
theorem so_7 : PyData.strOk (Str.ofString "r") = true := by decide +kernel
theorem so_8 : PyData.strOk (Str.ofString "w") = true := by decide +kernel
theorem so_9 : PyData.strOk (Str.ofString "driver") = true := by decide +kernel
theorem so_10 : PyData.strOk (Str.ofString "read") = true := by decide +kernel
theorem so_11 : PyData.strOk (Str.ofString "dma read") = true := by decide +kernel
theorem so_12 : PyData.strOk (Str.ofString "dma write") = true := by decide +kernel
theorem so_13 : PyData.strOk (Str.ofString "command") = true := by decide +kernel
theorem so_14 : PyData.strOk (Str.ofString "fetch") = true := by decide +kernel
theorem so_15 : PyData.strOk (Str.ofString "commit") = true := by decide +kernel
theorem so_16 : PyData.strOk (Str.ofString "tell") = true := by decide +kernel
theorem so_17 : PyData.strOk (Str.ofString "drop") = true := by decide +kernel
theorem so_18 : PyData.strOk (Str.ofString "journal") = true := by decide +kernel
theorem so_19 : PyData.strOk (Str.ofString "guard") = true := by decide +kernel
theorem so_20 : PyData.strOk (Str.ofString "pending") = true := by decide +kernel
theorem so_21 : PyData.strOk (Str.ofString "decided") = true := by decide +kernel
theorem so_22 : PyData.strOk (Str.ofString "moved") = true := by decide +kernel
theorem so_23 : PyData.strOk (Str.ofString "cells") = true := by decide +kernel
def top (i : Nat) : Stmt := PySem.Challenge.pw_ringbound_k19_honest_devices_step_by_ste.main.body.getD i (.Pass ⟨0, 0, 0, 0⟩)
abbrev s_frame_cell : Stmt := top 22
abbrev N_frame_cell : List Str := ["device", "frame", "index"]
abbrev s_table_word : Stmt := top 27
abbrev N_table_word : List Str := ["device", "page"]
abbrev s_first_values : Stmt := top 31
abbrev N_first_values : List Str := ["values", "device", "cell", "page"]
abbrev s_Guard_init : Stmt := inClass (top 9) 0
abbrev N_Guard_init : List Str := ["self"]
abbrev s_Memory_init : Stmt := inClass (top 32) 0
abbrev N_Memory_init : List Str := ["self", "_"]
abbrev s_Device_init : Stmt := inClass (top 51) 0
abbrev N_Device_init : List Str := ["self", "memory", "device"]
abbrev s_is_within : Stmt := top 7
abbrev N_is_within : List Str := ["value", "low", "high"]
abbrev s_Memory_check_actor : Stmt := inClass (top 32) 1
abbrev N_Memory_check_actor : List Str := ["self", "actor", "request"]
abbrev s_Memory_check_cell : Stmt := inClass (top 32) 3
abbrev N_Memory_check_cell : List Str := ["self", "cell"]
abbrev s_doorbell : Stmt := top 23
abbrev N_doorbell : List Str := ["device"]
abbrev s_interrupt : Stmt := top 26
abbrev N_interrupt : List Str := ["device"]
abbrev s_is_register : Stmt := top 29
abbrev N_is_register : List Str := ["device", "cell"]
abbrev s_acknowledge : Stmt := top 28
abbrev N_acknowledge : List Str := ["device"]
abbrev s_is_of_driver : Stmt := top 30
abbrev N_is_of_driver : List Str := ["device", "cell"]
abbrev s_Memory_check_block : Stmt := inClass (top 32) 4
abbrev N_Memory_check_block : List Str := ["self", "block"]
abbrev s_Memory_check_request : Stmt := inClass (top 32) 2
abbrev N_Memory_check_request : List Str := ["self", "actor", "request", "kind"]
abbrev s_Guard_command : Stmt := inClass (top 9) 2
abbrev N_Guard_command : List Str := ["self", "page"]
abbrev s_Guard_drop : Stmt := inClass (top 9) 3
abbrev N_Guard_drop : List Str := ["self", "page", "ticket"]
abbrev s_Memory_drop : Stmt := inClass (top 32) 10
abbrev N_Memory_drop : List Str := ["self", "device", "ticket"]
abbrev s_is_word : Stmt := top 8
abbrev N_is_word : List Str := ["value"]
abbrev s_Guard_use : Stmt := inClass (top 9) 1
abbrev N_Guard_use : List Str := ["self", "page", "right", "word", "found"]
abbrev s_Memory_dma_read : Stmt := inClass (top 32) 8
abbrev N_Memory_dma_read : List Str := ["self", "device", "frame", "index"]
abbrev s_Memory_dma_write : Stmt := inClass (top 32) 9
abbrev N_Memory_dma_write : List Str := ["self", "device", "frame", "index", "value"]
abbrev s_Memory_device_result : Stmt := inClass (top 32) 7
abbrev N_Memory_device_result : List Str := ["self", "device", "request", "kind", "right", "word", "frame"]
abbrev s_Memory_result : Stmt := inClass (top 32) 6
abbrev N_Memory_result : List Str := ["self", "device", "request", "kind"]
abbrev s_Memory_access : Stmt := inClass (top 32) 5
abbrev N_Memory_access : List Str := ["self", "actor", "request", "result"]
abbrev s_law_driver : Stmt := top 54
abbrev N_law_driver : List Str := ["_law_memory", "_law_request"]
abbrev s_law_begin : Stmt := top 55
abbrev N_law_begin : List Str := ["_law_memory"]
abbrev s_law_next : Stmt := top 53
abbrev N_law_next : List Str := ["_law_tape", "_law_many", "_law_rest", "_law_cell"]
abbrev s_law_describe : Stmt := top 56
abbrev N_law_describe : List Str := ["_law_tape", "_law_memory", "_law_number", "_law_tag", "_law_kind", "_law_right", "_law_index", "_law_entry"]
abbrev s_reset : Stmt := top 24
abbrev N_reset : List Str := ["device"]
abbrev s_law_wish : Stmt := top 57
abbrev N_law_wish : List Str := ["_law_own", "_law_choice", "_law_jobs", "_law_job", "_law_tag", "_law_kind", "_law_block", "_law_phase", "_law_sequence"]
abbrev s_Device_access : Stmt := inClass (top 51) 1
abbrev N_Device_access : List Str := ["self", "request"]
abbrev s_ready : Stmt := top 25
abbrev N_ready : List Str := ["device"]
abbrev s_Device_look_for_reset : Stmt := inClass (top 51) 4
abbrev N_Device_look_for_reset : List Str := ["self", "generation"]
abbrev s_buffer_page : Stmt := top 41
abbrev N_buffer_page : List Str := ["tag"]
abbrev s_Device_drop : Stmt := inClass (top 51) 6
abbrev N_Device_drop : List Str := ["self", "job", "other"]
abbrev s_Device_read_cell : Stmt := inClass (top 51) 8
abbrev N_Device_read_cell : List Str := ["self", "job", "found"]
abbrev s_Device_decide : Stmt := inClass (top 51) 10
abbrev N_Device_decide : List Str := ["self", "job"]
abbrev s_Device_write_cell : Stmt := inClass (top 51) 9
abbrev N_Device_write_cell : List Str := ["self", "job"]
abbrev s_is_count : Stmt := top 44
abbrev N_is_count : List Str := ["value"]
abbrev s_phase_of : Stmt := top 43
abbrev N_phase_of : List Str := ["number"]
abbrev s_completion : Stmt := top 46
abbrev N_completion : List Str := ["tag", "number"]
abbrev s_slot_of : Stmt := top 42
abbrev N_slot_of : List Str := ["number"]
abbrev s_Device_complete : Stmt := inClass (top 51) 11
abbrev N_Device_complete : List Str := ["self", "job", "entry"]
abbrev s_Device_go_on : Stmt := inClass (top 51) 7
abbrev N_Device_go_on : List Str := ["self", "job"]
abbrev s_are_parts : Stmt := top 45
abbrev N_are_parts : List Str := ["tag", "kind", "block", "sequence"]
abbrev s_is_new_descriptor : Stmt := top 47
abbrev N_is_new_descriptor : List Str := ["value", "number", "tag", "kind", "block", "phase", "sequence"]
abbrev s_Job_init : Stmt := inClass (top 50) 0
abbrev N_Job_init : List Str := ["self", "descriptor"]
abbrev s_Device_look_for_descriptor : Stmt := inClass (top 51) 5
abbrev N_Device_look_for_descriptor : List Str := ["self", "found"]
abbrev s_Device_step : Stmt := inClass (top 51) 3
abbrev N_Device_step : List Str := ["self", "choice", "request"]
abbrev s_Memory_log : Stmt := inClass (top 32) 15
abbrev N_Memory_log : List Str := ["self"]
abbrev s_law_taken : Stmt := top 59
abbrev N_law_taken : List Str := ["_law_own", "_law_result", "_law_entry"]
abbrev s_law_moved : Stmt := top 60
abbrev N_law_moved : List Str := ["_law_own", "_law_job", "_law_request", "_law_result", "_law_one"]
abbrev s_law_behind : Stmt := top 58
abbrev N_law_behind : List Str := ["_law_own", "_law_choice", "_law_request", "_law_result", "_law_jobs"]
abbrev s_Device_jobs : Stmt := inClass (top 51) 2
abbrev N_Device_jobs : List Str := ["self", "job"]
abbrev s_law : Stmt := top 61
abbrev N_law : List Str := ["_law_script", "_law_tape", "_law_memory", "_law_device", "_law_own", "_law_number", "_law_turn", "_law_kind", "_law_choice", "_law_wish_here", "_law_count", "_law_place", "_law_actor", "_law_request", "_law_result", "_law_job"]
/-- what the top has left of the names that the walks ask -/
structure Tx (P : Program) (w : World) (K : PySem.W.Frag) (mg : Str → Option Value) : Prop where
  b_abs : mg "abs" = none
  b_bool : mg "bool" = none
  b_int : mg "int" = none
  b_isinstance : mg "isinstance" = none
  b_len : mg "len" = none
  b_list : mg "list" = none
  b_range : mg "range" = none
  b_str : mg "str" = none
  b_tuple : mg "tuple" = none
  c_ALL_CELLS : ∃ t, mg "ALL_CELLS" = some (.int 70 t)
  c_BLOCKS : ∃ t, mg "BLOCKS" = some (.int 8 t)
  c_CELLS : ∃ t, mg "CELLS" = some (.int 4 t)
  c_COMPLETIONS : ∃ t, mg "COMPLETIONS" = some (.int 1 t)
  c_DEVICES : ∃ t, mg "DEVICES" = some (.int 2 t)
  c_FIRST_ACKNOWLEDGE : ∃ t, mg "FIRST_ACKNOWLEDGE" = some (.int 68 t)
  c_FIRST_BUFFER : ∃ t, mg "FIRST_BUFFER" = some (.int 2 t)
  c_FIRST_REGISTER : ∃ t, mg "FIRST_REGISTER" = some (.int 48 t)
  c_FIRST_WORD : ∃ t, mg "FIRST_WORD" = some (.int 56 t)
  c_FRAMES : ∃ t, mg "FRAMES" = some (.int 6 t)
  c_MOST_BLOCK : ∃ t, mg "MOST_BLOCK" = some (.int 7 t)
  c_MOST_JOBS : ∃ t, mg "MOST_JOBS" = some (.int 2 t)
  c_PAGES : ∃ t, mg "PAGES" = some (.int 6 t)
  c_REGISTERS : ∃ t, mg "REGISTERS" = some (.int 4 t)
  c_RING_FRAMES : ∃ t, mg "RING_FRAMES" = some (.int 2 t)
  c_SLOTS : ∃ t, mg "SLOTS" = some (.int 4 t)
  c_SUBMISSIONS : ∃ t, mg "SUBMISSIONS" = some (.int 0 t)
  c_TAGS : ∃ t, mg "TAGS" = some (.int 4 t)
  cl_Device : Cls K (He.ga K "Device")
  cl_Guard : Cls K (He.ga K "Guard")
  cl_Job : Cls K (He.ga K "Job")
  cl_Memory : Cls K (He.ga K "Memory")
  g_Device : mg "Device" = some (.ref (He.ga K "Device"))
  g_Guard : mg "Guard" = some (.ref (He.ga K "Guard"))
  g_Job : mg "Job" = some (.ref (He.ga K "Job"))
  g_KINDS : mg "KINDS" = some (.ref (He.ga K "KINDS"))
  g_Memory : mg "Memory" = some (.ref (He.ga K "Memory"))
  g_RIGHTS : mg "RIGHTS" = some (.ref (He.ga K "RIGHTS"))
  g__law_begin : mg "_law_begin" = some (.ref (He.ga K "_law_begin"))
  g__law_behind : mg "_law_behind" = some (.ref (He.ga K "_law_behind"))
  g__law_describe : mg "_law_describe" = some (.ref (He.ga K "_law_describe"))
  g__law_driver : mg "_law_driver" = some (.ref (He.ga K "_law_driver"))
  g__law_moved : mg "_law_moved" = some (.ref (He.ga K "_law_moved"))
  g__law_next : mg "_law_next" = some (.ref (He.ga K "_law_next"))
  g__law_taken : mg "_law_taken" = some (.ref (He.ga K "_law_taken"))
  g__law_wish : mg "_law_wish" = some (.ref (He.ga K "_law_wish"))
  g_acknowledge : mg "acknowledge" = some (.ref (He.ga K "acknowledge"))
  g_are_parts : mg "are_parts" = some (.ref (He.ga K "are_parts"))
  g_buffer_page : mg "buffer_page" = some (.ref (He.ga K "buffer_page"))
  g_completion : mg "completion" = some (.ref (He.ga K "completion"))
  g_doorbell : mg "doorbell" = some (.ref (He.ga K "doorbell"))
  g_first_values : mg "first_values" = some (.ref (He.ga K "first_values"))
  g_frame_cell : mg "frame_cell" = some (.ref (He.ga K "frame_cell"))
  g_interrupt : mg "interrupt" = some (.ref (He.ga K "interrupt"))
  g_is_count : mg "is_count" = some (.ref (He.ga K "is_count"))
  g_is_new_descriptor : mg "is_new_descriptor" = some (.ref (He.ga K "is_new_descriptor"))
  g_is_of_driver : mg "is_of_driver" = some (.ref (He.ga K "is_of_driver"))
  g_is_register : mg "is_register" = some (.ref (He.ga K "is_register"))
  g_is_within : mg "is_within" = some (.ref (He.ga K "is_within"))
  g_is_word : mg "is_word" = some (.ref (He.ga K "is_word"))
  g_phase_of : mg "phase_of" = some (.ref (He.ga K "phase_of"))
  g_ready : mg "ready" = some (.ref (He.ga K "ready"))
  g_reset : mg "reset" = some (.ref (He.ga K "reset"))
  g_slot_of : mg "slot_of" = some (.ref (He.ga K "slot_of"))
  g_table_word : mg "table_word" = some (.ref (He.ga K "table_word"))
  m_Device__access : Meth K (He.ga K "Device") "access" (He.fAd K ("Device", some "access"))
  m_Device__complete : Meth K (He.ga K "Device") "complete" (He.fAd K ("Device", some "complete"))
  m_Device__decide : Meth K (He.ga K "Device") "decide" (He.fAd K ("Device", some "decide"))
  m_Device__drop : Meth K (He.ga K "Device") "drop" (He.fAd K ("Device", some "drop"))
  m_Device__go_on : Meth K (He.ga K "Device") "go_on" (He.fAd K ("Device", some "go_on"))
  m_Device__jobs : Meth K (He.ga K "Device") "jobs" (He.fAd K ("Device", some "jobs"))
  m_Device__look_for_descriptor : Meth K (He.ga K "Device") "look_for_descriptor" (He.fAd K ("Device", some "look_for_descriptor"))
  m_Device__look_for_reset : Meth K (He.ga K "Device") "look_for_reset" (He.fAd K ("Device", some "look_for_reset"))
  m_Device__read_cell : Meth K (He.ga K "Device") "read_cell" (He.fAd K ("Device", some "read_cell"))
  m_Device__step : Meth K (He.ga K "Device") "step" (He.fAd K ("Device", some "step"))
  m_Device__write_cell : Meth K (He.ga K "Device") "write_cell" (He.fAd K ("Device", some "write_cell"))
  m_Guard__command : Meth K (He.ga K "Guard") "command" (He.fAd K ("Guard", some "command"))
  m_Guard__drop : Meth K (He.ga K "Guard") "drop" (He.fAd K ("Guard", some "drop"))
  m_Guard__use : Meth K (He.ga K "Guard") "use" (He.fAd K ("Guard", some "use"))
  m_Memory__access : Meth K (He.ga K "Memory") "access" (He.fAd K ("Memory", some "access"))
  m_Memory__check_actor : Meth K (He.ga K "Memory") "check_actor" (He.fAd K ("Memory", some "check_actor"))
  m_Memory__check_block : Meth K (He.ga K "Memory") "check_block" (He.fAd K ("Memory", some "check_block"))
  m_Memory__check_cell : Meth K (He.ga K "Memory") "check_cell" (He.fAd K ("Memory", some "check_cell"))
  m_Memory__check_request : Meth K (He.ga K "Memory") "check_request" (He.fAd K ("Memory", some "check_request"))
  m_Memory__device_result : Meth K (He.ga K "Memory") "device_result" (He.fAd K ("Memory", some "device_result"))
  m_Memory__dma_read : Meth K (He.ga K "Memory") "dma_read" (He.fAd K ("Memory", some "dma_read"))
  m_Memory__dma_write : Meth K (He.ga K "Memory") "dma_write" (He.fAd K ("Memory", some "dma_write"))
  m_Memory__drop : Meth K (He.ga K "Memory") "drop" (He.fAd K ("Memory", some "drop"))
  m_Memory__log : Meth K (He.ga K "Memory") "log" (He.fAd K ("Memory", some "log"))
  m_Memory__result : Meth K (He.ga K "Memory") "result" (He.fAd K ("Memory", some "result"))
  mk_Device : Mk K (He.ga K "Device") (He.fAd K ("Device", some "__init__"))
  mk_Guard : Mk K (He.ga K "Guard") (He.fAd K ("Guard", some "__init__"))
  mk_Job : Mk K (He.ga K "Job") (He.fAd K ("Job", some "__init__"))
  mk_Memory : Mk K (He.ga K "Memory") (He.fAd K ("Memory", some "__init__"))
  na_Device__completed : NoAttr K (He.ga K "Device") "completed"
  na_Device__device : NoAttr K (He.ga K "Device") "device"
  na_Device__generation : NoAttr K (He.ga K "Device") "generation"
  na_Device__memory : NoAttr K (He.ga K "Device") "memory"
  na_Device__pending : NoAttr K (He.ga K "Device") "pending"
  na_Device__taken : NoAttr K (He.ga K "Device") "taken"
  na_Device__under_way : NoAttr K (He.ga K "Device") "under_way"
  na_Guard__kept : NoAttr K (He.ga K "Guard") "kept"
  na_Guard__tickets : NoAttr K (He.ga K "Guard") "tickets"
  na_Guard__waiting : NoAttr K (He.ga K "Guard") "waiting"
  na_Job__block : NoAttr K (He.ga K "Job") "block"
  na_Job__content : NoAttr K (He.ga K "Job") "content"
  na_Job__descriptor : NoAttr K (He.ga K "Job") "descriptor"
  na_Job__is_decided : NoAttr K (He.ga K "Job") "is_decided"
  na_Job__kind : NoAttr K (He.ga K "Job") "kind"
  na_Job__moved : NoAttr K (He.ga K "Job") "moved"
  na_Job__sequence : NoAttr K (He.ga K "Job") "sequence"
  na_Job__tag : NoAttr K (He.ga K "Job") "tag"
  na_Memory__count : NoAttr K (He.ga K "Memory") "count"
  na_Memory__guards : NoAttr K (He.ga K "Memory") "guards"
  na_Memory__held : NoAttr K (He.ga K "Memory") "held"
  na_Memory__journals : NoAttr K (He.ga K "Memory") "journals"
  na_Memory__rows : NoAttr K (He.ga K "Memory") "rows"
  na_Memory__stored : NoAttr K (He.ga K "Memory") "stored"
  sh_SHAPES : ShapesOk P w K mg
  v_KINDS : ∀ φ H, VR K φ H (.ref (He.ga K "KINDS")) (.tup [.str "read", .str "write"])
  v_RIGHTS : ∀ φ H, VR K φ H (.ref (He.ga K "RIGHTS")) (.tup [.str "r", .str "w"])
  x_NotValid : XOk K mg "NotValid"
section
variable {P : Program} {w : World} {K : PySem.W.Frag} {mg : Str → Option Value} {base : Heap}
theorem sc_frame_cell : FnScope N_frame_cell ["device", "frame", "index"] (defScope s_frame_cell) := ⟨rfl, rfl, rfl, by decide +kernel, rfl, by decide +kernel, by decide +kernel⟩
theorem ok_frame_cell (T : Tx P w K mg) (hF : ∃ fd, FunD K "frame_cell" "frame_cell" (defArgs s_frame_cell) (defBody s_frame_cell) (defScope s_frame_cell) [] [] (He.fAd K ("frame_cell", none)) fd)  : Okd P w K mg base 1 (He.fAd K ("frame_cell", none)) ["device", "frame", "index"] (spA K a_frame_cell) := by
  refine okA hF sc_frame_cell rfl rfl (fun _ _ _ _ _ _ us hl => match us, hl with | [_, _, _], _ => rfl) (fun cdv A outer s H E hr => ?_)
  have nd := sc_frame_cell.nd
  exact (y_one (y_ret (d_op op_addA k_add (d_op op_addA k_add (d_op op_mulA k_mul (d_op op_mulA k_mul (d_int (pe_gint rfl T.c_FRAMES)) (d_int (pe_gint rfl T.c_CELLS))) (d_var (pv 0))) (d_op op_mulA k_mul (d_int (pe_gint rfl T.c_CELLS)) (d_var (pv 1)))) (d_var (pv 2)))))
theorem sc_table_word : FnScope N_table_word ["device", "page"] (defScope s_table_word) := ⟨rfl, rfl, rfl, by decide +kernel, rfl, by decide +kernel, by decide +kernel⟩
theorem ok_table_word (T : Tx P w K mg) (hF : ∃ fd, FunD K "table_word" "table_word" (defArgs s_table_word) (defBody s_table_word) (defScope s_table_word) [] [] (He.fAd K ("table_word", none)) fd)  : Okd P w K mg base 1 (He.fAd K ("table_word", none)) ["device", "page"] (spA K a_table_word) := by
  refine okA hF sc_table_word rfl rfl (fun _ _ _ _ _ _ us hl => match us, hl with | [_, _], _ => rfl) (fun cdv A outer s H E hr => ?_)
  have nd := sc_table_word.nd
  exact (y_one (y_ret (d_op op_addA k_add (d_op op_addA k_add (d_int (pe_gint rfl T.c_FIRST_WORD)) (d_op op_mulA k_mul (d_int (pe_gint rfl T.c_PAGES)) (d_var (pv 0)))) (d_var (pv 1)))))
theorem sc_first_values : FnScope N_first_values [] (defScope s_first_values) := ⟨rfl, rfl, rfl, by decide +kernel, rfl, by decide +kernel, by decide +kernel⟩
theorem ok_first_values (T : Tx P w K mg) (hF : ∃ fd, FunD K "first_values" "first_values" (defArgs s_first_values) (defBody s_first_values) (defScope s_first_values) [] [] (He.fAd K ("first_values", none)) fd) (h_frame_cell : Okd P w K mg base 1 (He.fAd K ("frame_cell", none)) ["device", "frame", "index"] (spA K a_frame_cell)) (h_table_word : Okd P w K mg base 1 (He.fAd K ("table_word", none)) ["device", "page"] (spA K a_table_word)) : Okd P w K mg base 2 (He.fAd K ("first_values", none)) [] (spA K a_first_values) := by
  obtain ⟨fd_frame_cell, G_frame_cell, b_frame_cell, kp_frame_cell, _⟩ := h_frame_cell
  obtain ⟨fd_table_word, G_table_word, b_table_word, kp_table_word, _⟩ := h_table_word
  refine okA hF sc_first_values rfl rfl (fun _ _ _ _ _ _ us hl => match us, hl with | [], _ => rfl) (fun cdv A outer s H E hr => ?_)
  have nd := sc_first_values.nd
  exact (y_cons (y_set (ps_set (i := 0) nd rfl (Or.inl rfl) (d_op op_mulA k_mul (d_lst (d_cons (d_int pe_int) d_nil)) (d_int (pe_gint rfl T.c_ALL_CELLS)))))
  (y_cons (y_for (passes_of rfl) rfl (i_r1 (pi_range1 rfl T.b_range (d_cons (d_int (pe_gint rfl T.c_DEVICES)) d_nil))) (g_name (pg_name (i := 1) nd rfl (Or.inl rfl))) (y_cons (y_for (passes_of rfl) rfl (i_r2 (pi_range2 rfl T.b_range (d_cons (d_call G_frame_cell (hr.mono (by decide)) rfl T.g_frame_cell kp_frame_cell b_frame_cell (fun σ => passAt (takes_of rfl rfl rfl rfl) σ) (d_cons (d_var (pv 1)) (d_cons (d_int pe_int) (d_cons (d_int pe_int) d_nil)))) (d_cons (d_call G_frame_cell (hr.mono (by decide)) rfl T.g_frame_cell kp_frame_cell b_frame_cell (fun σ => passAt (takes_of rfl rfl rfl rfl) σ) (d_cons (d_var (pv 1)) (d_cons (d_int (pe_gint rfl T.c_RING_FRAMES)) (d_cons (d_int pe_int) d_nil)))) d_nil)))) (g_name (pg_name (i := 2) nd rfl (Or.inl rfl))) (y_one (y_asg (d_non pe_non) (g_sub (d_var (pv 0)) (d_var (pv 2))))))
  (y_one (y_for (passes_of rfl) rfl (i_r1 (pi_range1 rfl T.b_range (d_cons (d_int (pe_gint rfl T.c_PAGES)) d_nil))) (g_name (pg_name (i := 3) nd rfl (Or.inl rfl))) (y_one (y_asg (d_non pe_non) (g_sub (d_var (pv 0)) (d_call G_table_word (hr.mono (by decide)) rfl T.g_table_word kp_table_word b_table_word (fun σ => passAt takes0 σ) (d_cons (d_var (pv 1)) (d_cons (d_var (pv 3)) d_nil))))))))))
  (y_one (y_ret (d_var (pv 0))))))
theorem sc_Guard_init : FnScope N_Guard_init ["self"] (defScope s_Guard_init) := ⟨rfl, rfl, rfl, by decide +kernel, rfl, by decide +kernel, by decide +kernel⟩
theorem ok_Guard_init (T : Tx P w K mg) (hF : ∃ fd, FunD K "__init__" "Guard.__init__" (defArgs s_Guard_init) (defBody s_Guard_init) (defScope s_Guard_init) [] [] (He.fAd K ("Guard", some "__init__")) fd)  : Okd P w K mg base 1 (He.fAd K ("Guard", some "__init__")) ["self"] (spA K a_Guard_init) := by
  refine okA hF sc_Guard_init rfl rfl (fun _ _ _ _ _ _ us hl => match us, hl with | [_], _ => rfl) (fun cdv A outer s H E hr => ?_)
  have nd := sc_Guard_init.nd
  exact (y_cons (y_sfn "Guard" "kept" T.na_Guard__kept (d_var (pv 0)) d_dnewK rfl)
  (y_cons (y_sfn "Guard" "waiting" T.na_Guard__waiting (d_var (pv 0)) (d_lst d_nil) rfl)
  (y_one (y_sfn "Guard" "tickets" T.na_Guard__tickets (d_var (pv 0)) (d_int pe_int) rfl))))
theorem sc_Memory_init : FnScope N_Memory_init ["self"] (defScope s_Memory_init) := ⟨rfl, rfl, rfl, by decide +kernel, rfl, by decide +kernel, by decide +kernel⟩
theorem ok_Memory_init (T : Tx P w K mg) (hF : ∃ fd, FunD K "__init__" "Memory.__init__" (defArgs s_Memory_init) (defBody s_Memory_init) (defScope s_Memory_init) [] [] (He.fAd K ("Memory", some "__init__")) fd) (h_first_values : Okd P w K mg base 2 (He.fAd K ("first_values", none)) [] (spA K a_first_values)) (h_Guard_init : Okd P w K mg base 1 (He.fAd K ("Guard", some "__init__")) ["self"] (spA K a_Guard_init)) : Okd P w K mg base 3 (He.fAd K ("Memory", some "__init__")) ["self"] (spA K a_Memory_init) := by
  obtain ⟨fd_first_values, G_first_values, b_first_values, kp_first_values, _⟩ := h_first_values
  obtain ⟨fd_Guard_init, G_Guard_init, b_Guard_init, kp_Guard_init, _⟩ := h_Guard_init
  refine okA hF sc_Memory_init rfl rfl (fun _ _ _ _ _ _ us hl => match us, hl with | [_], _ => rfl) (fun cdv A outer s H E hr => ?_)
  have nd := sc_Memory_init.nd
  exact (y_cons (y_sfn "Memory" "count" T.na_Memory__count (d_var (pv 0)) (d_int pe_int) rfl)
  (y_cons (y_sfn "Memory" "held" T.na_Memory__held (d_var (pv 0)) (d_call0 G_first_values (hr.mono (by decide)) rfl T.g_first_values kp_first_values b_first_values) rfl)
  (y_cons (y_sfn "Memory" "guards" T.na_Memory__guards (d_var (pv 0)) (d_lc (pe_lc (own := [("_", 1)]) (g := gName 1) (tt := rdT K W0 (xYes)) (te := rdE K W0 (xMake0 "Guard" a_Guard_init)) rfl nd (i_r1 (pi_range1 rfl T.b_range (d_cons (d_int (pe_gint rfl T.c_DEVICES)) d_nil))) (blkOk_by (own := [("_", 1)]) (N := N_Memory_init) (sc := defScope s_Memory_init) (by decide +kernel)) (fun _ _ _ _ _ => pg_name (i := 1) nd rfl (Or.inl rfl)) (fun _ _ _ _ _ => d_yes) (fun _ _ _ _ _ => (d_make0 T.cl_Guard T.mk_Guard G_Guard_init (hr.mono (by decide)) rfl T.g_Guard b_Guard_init))) (tg_name 1)) rfl)
  (y_cons (y_sfn "Memory" "stored" T.na_Memory__stored (d_var (pv 0)) (d_lc (pe_lc (own := [("_", 1)]) (g := gName 1) (tt := rdT K W0 (xYes)) (te := rdE K W0 (xOp aMul (xLst (xCons (xTup (xCons (xC (.int 0)) (xCons (xC (.int 0)) (xCons (xC (.int 0)) (xCons (xC (.int 0)) (xNil)))))) (xNil))) (xC (.int 8)))) rfl nd (i_r1 (pi_range1 rfl T.b_range (d_cons (d_int (pe_gint rfl T.c_DEVICES)) d_nil))) (blkOk_by (own := [("_", 1)]) (N := N_Memory_init) (sc := defScope s_Memory_init) (by decide +kernel)) (fun _ _ _ _ _ => pg_name (i := 1) nd rfl (Or.inl rfl)) (fun _ _ _ _ _ => d_yes) (fun _ _ _ _ _ => (d_op op_mulA k_mul (d_lst (d_cons (d_tup (d_cons (d_int pe_int) (d_cons (d_int pe_int) (d_cons (d_int pe_int) (d_cons (d_int pe_int) d_nil))))) d_nil)) (d_int (pe_gint rfl T.c_BLOCKS))))) (tg_name 1)) rfl)
  (y_cons (y_sfn "Memory" "journals" T.na_Memory__journals (d_var (pv 0)) (d_lc (pe_lc (own := [("_", 1)]) (g := gName 1) (tt := rdT K W0 (xYes)) (te := rdE K W0 (xTup (xNil))) rfl nd (i_r1 (pi_range1 rfl T.b_range (d_cons (d_int (pe_gint rfl T.c_DEVICES)) d_nil))) (blkOk_by (own := [("_", 1)]) (N := N_Memory_init) (sc := defScope s_Memory_init) (by decide +kernel)) (fun _ _ _ _ _ => pg_name (i := 1) nd rfl (Or.inl rfl)) (fun _ _ _ _ _ => d_yes) (fun _ _ _ _ _ => (d_tup d_nil))) (tg_name 1)) rfl)
  (y_one (y_sfn "Memory" "rows" T.na_Memory__rows (d_var (pv 0)) (d_lst d_nil) rfl)))))))
theorem sc_Device_init : FnScope N_Device_init ["self", "memory", "device"] (defScope s_Device_init) := ⟨rfl, rfl, rfl, by decide +kernel, rfl, by decide +kernel, by decide +kernel⟩
theorem ok_Device_init (T : Tx P w K mg) (hF : ∃ fd, FunD K "__init__" "Device.__init__" (defArgs s_Device_init) (defBody s_Device_init) (defScope s_Device_init) [] [] (He.fAd K ("Device", some "__init__")) fd)  : Okd P w K mg base 1 (He.fAd K ("Device", some "__init__")) ["self", "memory", "device"] (spA K a_Device_init) := by
  refine okA hF sc_Device_init rfl rfl (fun _ _ _ _ _ _ us hl => match us, hl with | [_, _, _], _ => rfl) (fun cdv A outer s H E hr => ?_)
  have nd := sc_Device_init.nd
  exact (y_cons (y_sfn "Device" "memory" T.na_Device__memory (d_var (pv 0)) (d_var (pv 1)) rfl)
  (y_cons (y_sfn "Device" "device" T.na_Device__device (d_var (pv 0)) (d_var (pv 2)) rfl)
  (y_cons (y_sfn "Device" "generation" T.na_Device__generation (d_var (pv 0)) (d_int pe_int) rfl)
  (y_cons (y_sfn "Device" "taken" T.na_Device__taken (d_var (pv 0)) (d_int pe_int) rfl)
  (y_cons (y_sfn "Device" "completed" T.na_Device__completed (d_var (pv 0)) (d_int pe_int) rfl)
  (y_cons (y_sfn "Device" "under_way" T.na_Device__under_way (d_var (pv 0)) (d_lst d_nil) rfl)
  (y_one (y_sfn "Device" "pending" T.na_Device__pending (d_var (pv 0)) (d_lst d_nil) rfl))))))))
theorem sc_is_within : FnScope N_is_within ["value", "low", "high"] (defScope s_is_within) := ⟨rfl, rfl, rfl, by decide +kernel, rfl, by decide +kernel, by decide +kernel⟩
theorem ok_is_within (T : Tx P w K mg) (hF : ∃ fd, FunD K "is_within" "is_within" (defArgs s_is_within) (defBody s_is_within) (defScope s_is_within) [] [] (He.fAd K ("is_within", none)) fd)  : Okd P w K mg base 1 (He.fAd K ("is_within", none)) ["value", "low", "high"] (spA K a_is_within) := by
  refine okA hF sc_is_within rfl rfl (fun _ _ _ _ _ _ us hl => match us, hl with | [_, _, _], _ => rfl) (fun cdv A outer s H E hr => ?_)
  have nd := sc_is_within.nd
  exact (y_one (y_ret (d_vand (d_callB cr_isi k_isi (by rfl) T.b_isinstance (by decide +kernel) (d_cons (d_var (pv 0)) (d_cons (d_ty (pe_bltn (v := .ty "int") (by rfl) T.b_int (by decide +kernel) rfl)) d_nil))) (d_vand (d_vnot (d_callB cr_isi k_isi (by rfl) T.b_isinstance (by decide +kernel) (d_cons (d_var (pv 0)) (d_cons (d_ty (pe_bltn (v := .ty "bool") (by rfl) T.b_bool (by decide +kernel) rfl)) d_nil)))) (d_vone (d_chain op_leI op_leI k_le k_le (d_var (pv 1)) (d_var (pv 0)) (d_var (pv 2))))))))
theorem sc_Memory_check_actor : FnScope N_Memory_check_actor ["self", "actor", "request"] (defScope s_Memory_check_actor) := ⟨rfl, rfl, rfl, by decide +kernel, rfl, by decide +kernel, by decide +kernel⟩
theorem ok_Memory_check_actor (T : Tx P w K mg) (hF : ∃ fd, FunD K "check_actor" "Memory.check_actor" (defArgs s_Memory_check_actor) (defBody s_Memory_check_actor) (defScope s_Memory_check_actor) [] [] (He.fAd K ("Memory", some "check_actor")) fd) (h_is_within : Okd P w K mg base 1 (He.fAd K ("is_within", none)) ["value", "low", "high"] (spA K a_is_within)) : Okd P w K mg base 2 (He.fAd K ("Memory", some "check_actor")) ["self", "actor", "request"] (spA K a_Memory_check_actor) := by
  obtain ⟨fd_is_within, G_is_within, b_is_within, kp_is_within, _⟩ := h_is_within
  refine okA hF sc_Memory_check_actor rfl rfl (fun _ _ _ _ _ _ us hl => match us, hl with | [_, _, _], _ => rfl) (fun cdv A outer s H E hr => ?_)
  have nd := sc_Memory_check_actor.nd
  exact (y_cons (y_if (PW.pt (d_or (d_not (d_tru (d_callB cr_isi k_isi (by rfl) T.b_isinstance (by decide +kernel) (d_cons (d_var (pv 1)) (d_cons (d_ty (pe_bltn (v := .ty "tuple") (by rfl) T.b_tuple (by decide +kernel) rfl)) d_nil))))) (d_or (d_tcmp (op_neM (hu65 hr)) k_ne (d_callB cr_lenM k_len (by rfl) T.b_len (by decide +kernel) (d_cons (d_var (pv 1)) d_nil)) (d_int pe_int) (nomark _)) (d_or1 (d_not (d_tru (d_call G_is_within (hr.mono (by decide)) rfl T.g_is_within kp_is_within b_is_within (fun σ => passAt (takes_of rfl rfl rfl rfl) σ) (d_cons (d_ix (d_var (pv 1)) (d_int pe_int) (fun _ _ => rfl)) (d_cons (d_int pe_int) (d_cons (d_op op_subN k_sub (d_int (pe_gint rfl T.c_DEVICES)) (d_int pe_int)) d_nil)))))))))) (y_one (y_raise (ps_raise0 T.x_NotValid rfl (takes_of rfl rfl rfl rfl) rfl))) y_nil)
  (y_cons (y_if (PW.pt (d_or (d_not (d_tru (d_callB cr_isi k_isi (by rfl) T.b_isinstance (by decide +kernel) (d_cons (d_var (pv 2)) (d_cons (d_ty (pe_bltn (v := .ty "tuple") (by rfl) T.b_tuple (by decide +kernel) rfl)) d_nil))))) (d_or1 (d_tcmp (op_eqM (hu65 hr)) k_eq (d_callB cr_lenM k_len (by rfl) T.b_len (by decide +kernel) (d_cons (d_var (pv 2)) d_nil)) (d_int pe_int) (nomark _))))) (y_one (y_raise (ps_raise0 T.x_NotValid rfl (takes_of rfl rfl rfl rfl) rfl))) y_nil)
  (y_one (y_if (d_tcmp (op_neM (hu65 hr)) k_ne (d_shapes T.sh_SHAPES (d_cons (d_ix (d_var (pv 1)) (d_int pe_int) (fun _ _ => rfl)) (d_cons (d_ix (d_var (pv 2)) (d_int pe_int) (fun _ _ => rfl)) d_nil)) (hu65 hr)) (d_callB cr_lenM k_len (by rfl) T.b_len (by decide +kernel) (d_cons (d_var (pv 2)) d_nil)) (nomark _)) (y_one (y_raise (ps_raise0 T.x_NotValid rfl (takes_of rfl rfl rfl rfl) rfl))) y_nil))))
theorem sc_Memory_check_cell : FnScope N_Memory_check_cell ["self", "cell"] (defScope s_Memory_check_cell) := ⟨rfl, rfl, rfl, by decide +kernel, rfl, by decide +kernel, by decide +kernel⟩
theorem ok_Memory_check_cell (T : Tx P w K mg) (hF : ∃ fd, FunD K "check_cell" "Memory.check_cell" (defArgs s_Memory_check_cell) (defBody s_Memory_check_cell) (defScope s_Memory_check_cell) [] [] (He.fAd K ("Memory", some "check_cell")) fd) (h_is_within : Okd P w K mg base 1 (He.fAd K ("is_within", none)) ["value", "low", "high"] (spA K a_is_within)) : Okd P w K mg base 2 (He.fAd K ("Memory", some "check_cell")) ["self", "cell"] (spA K a_Memory_check_cell) := by
  obtain ⟨fd_is_within, G_is_within, b_is_within, kp_is_within, _⟩ := h_is_within
  refine okA hF sc_Memory_check_cell rfl rfl (fun _ _ _ _ _ _ us hl => match us, hl with | [_, _], _ => rfl) (fun cdv A outer s H E hr => ?_)
  have nd := sc_Memory_check_cell.nd
  exact (y_one (y_if (d_not (d_tru (d_call G_is_within (hr.mono (by decide)) rfl T.g_is_within kp_is_within b_is_within (fun σ => passAt (takes_of rfl rfl rfl rfl) σ) (d_cons (d_var (pv 1)) (d_cons (d_int pe_int) (d_cons (d_op op_subN k_sub (d_int (pe_gint rfl T.c_ALL_CELLS)) (d_int pe_int)) d_nil)))))) (y_one (y_raise (ps_raise0 T.x_NotValid rfl (takes_of rfl rfl rfl rfl) rfl))) y_nil))
theorem sc_doorbell : FnScope N_doorbell ["device"] (defScope s_doorbell) := ⟨rfl, rfl, rfl, by decide +kernel, rfl, by decide +kernel, by decide +kernel⟩
theorem ok_doorbell (T : Tx P w K mg) (hF : ∃ fd, FunD K "doorbell" "doorbell" (defArgs s_doorbell) (defBody s_doorbell) (defScope s_doorbell) [] [] (He.fAd K ("doorbell", none)) fd)  : Okd P w K mg base 1 (He.fAd K ("doorbell", none)) ["device"] (spA K a_doorbell) := by
  refine okA hF sc_doorbell rfl rfl (fun _ _ _ _ _ _ us hl => match us, hl with | [_], _ => rfl) (fun cdv A outer s H E hr => ?_)
  have nd := sc_doorbell.nd
  exact (y_one (y_ret (d_op op_addA k_add (d_int (pe_gint rfl T.c_FIRST_REGISTER)) (d_op op_mulA k_mul (d_int (pe_gint rfl T.c_REGISTERS)) (d_var (pv 0))))))
theorem sc_interrupt : FnScope N_interrupt ["device"] (defScope s_interrupt) := ⟨rfl, rfl, rfl, by decide +kernel, rfl, by decide +kernel, by decide +kernel⟩
theorem ok_interrupt (T : Tx P w K mg) (hF : ∃ fd, FunD K "interrupt" "interrupt" (defArgs s_interrupt) (defBody s_interrupt) (defScope s_interrupt) [] [] (He.fAd K ("interrupt", none)) fd) (h_doorbell : Okd P w K mg base 1 (He.fAd K ("doorbell", none)) ["device"] (spA K a_doorbell)) : Okd P w K mg base 2 (He.fAd K ("interrupt", none)) ["device"] (spA K a_interrupt) := by
  obtain ⟨fd_doorbell, G_doorbell, b_doorbell, kp_doorbell, _⟩ := h_doorbell
  refine okA hF sc_interrupt rfl rfl (fun _ _ _ _ _ _ us hl => match us, hl with | [_], _ => rfl) (fun cdv A outer s H E hr => ?_)
  have nd := sc_interrupt.nd
  exact (y_one (y_ret (d_op op_addA k_add (d_call G_doorbell (hr.mono (by decide)) rfl T.g_doorbell kp_doorbell b_doorbell (fun σ => passAt (takes_of rfl rfl rfl rfl) σ) (d_cons (d_var (pv 0)) d_nil)) (d_int pe_int))))
theorem sc_is_register : FnScope N_is_register ["device", "cell"] (defScope s_is_register) := ⟨rfl, rfl, rfl, by decide +kernel, rfl, by decide +kernel, by decide +kernel⟩
theorem ok_is_register (T : Tx P w K mg) (hF : ∃ fd, FunD K "is_register" "is_register" (defArgs s_is_register) (defBody s_is_register) (defScope s_is_register) [] [] (He.fAd K ("is_register", none)) fd) (h_doorbell : Okd P w K mg base 1 (He.fAd K ("doorbell", none)) ["device"] (spA K a_doorbell)) (h_interrupt : Okd P w K mg base 2 (He.fAd K ("interrupt", none)) ["device"] (spA K a_interrupt)) : Okd P w K mg base 3 (He.fAd K ("is_register", none)) ["device", "cell"] (spA K a_is_register) := by
  obtain ⟨fd_doorbell, G_doorbell, b_doorbell, kp_doorbell, _⟩ := h_doorbell
  obtain ⟨fd_interrupt, G_interrupt, b_interrupt, kp_interrupt, _⟩ := h_interrupt
  refine okA hF sc_is_register rfl rfl (fun _ _ _ _ _ _ us hl => match us, hl with | [_, _], _ => rfl) (fun cdv A outer s H E hr => ?_)
  have nd := sc_is_register.nd
  exact (y_one (y_ret (d_chain op_leI op_leI k_le k_le (d_call G_doorbell (hr.mono (by decide)) rfl T.g_doorbell kp_doorbell b_doorbell (fun σ => passAt (takes_of rfl rfl rfl rfl) σ) (d_cons (d_var (pv 0)) d_nil)) (d_var (pv 1)) (d_call G_interrupt (hr.mono (by decide)) rfl T.g_interrupt kp_interrupt b_interrupt (fun σ => passAt (takes_of rfl rfl rfl rfl) σ) (d_cons (d_var (pv 0)) d_nil)))))
theorem sc_acknowledge : FnScope N_acknowledge ["device"] (defScope s_acknowledge) := ⟨rfl, rfl, rfl, by decide +kernel, rfl, by decide +kernel, by decide +kernel⟩
theorem ok_acknowledge (T : Tx P w K mg) (hF : ∃ fd, FunD K "acknowledge" "acknowledge" (defArgs s_acknowledge) (defBody s_acknowledge) (defScope s_acknowledge) [] [] (He.fAd K ("acknowledge", none)) fd)  : Okd P w K mg base 1 (He.fAd K ("acknowledge", none)) ["device"] (spA K a_acknowledge) := by
  refine okA hF sc_acknowledge rfl rfl (fun _ _ _ _ _ _ us hl => match us, hl with | [_], _ => rfl) (fun cdv A outer s H E hr => ?_)
  have nd := sc_acknowledge.nd
  exact (y_one (y_ret (d_op op_addA k_add (d_int (pe_gint rfl T.c_FIRST_ACKNOWLEDGE)) (d_var (pv 0)))))
theorem sc_is_of_driver : FnScope N_is_of_driver ["device", "cell"] (defScope s_is_of_driver) := ⟨rfl, rfl, rfl, by decide +kernel, rfl, by decide +kernel, by decide +kernel⟩
theorem ok_is_of_driver (T : Tx P w K mg) (hF : ∃ fd, FunD K "is_of_driver" "is_of_driver" (defArgs s_is_of_driver) (defBody s_is_of_driver) (defScope s_is_of_driver) [] [] (He.fAd K ("is_of_driver", none)) fd) (h_frame_cell : Okd P w K mg base 1 (He.fAd K ("frame_cell", none)) ["device", "frame", "index"] (spA K a_frame_cell)) (h_is_register : Okd P w K mg base 3 (He.fAd K ("is_register", none)) ["device", "cell"] (spA K a_is_register)) (h_table_word : Okd P w K mg base 1 (He.fAd K ("table_word", none)) ["device", "page"] (spA K a_table_word)) (h_acknowledge : Okd P w K mg base 1 (He.fAd K ("acknowledge", none)) ["device"] (spA K a_acknowledge)) : Okd P w K mg base 4 (He.fAd K ("is_of_driver", none)) ["device", "cell"] (spA K a_is_of_driver) := by
  obtain ⟨fd_frame_cell, G_frame_cell, b_frame_cell, kp_frame_cell, _⟩ := h_frame_cell
  obtain ⟨fd_is_register, G_is_register, b_is_register, kp_is_register, _⟩ := h_is_register
  obtain ⟨fd_table_word, G_table_word, b_table_word, kp_table_word, _⟩ := h_table_word
  obtain ⟨fd_acknowledge, G_acknowledge, b_acknowledge, kp_acknowledge, _⟩ := h_acknowledge
  refine okA hF sc_is_of_driver rfl rfl (fun _ _ _ _ _ _ us hl => match us, hl with | [_, _], _ => rfl) (fun cdv A outer s H E hr => ?_)
  have nd := sc_is_of_driver.nd
  exact (y_cons (y_if (PW.pt (d_or (d_tchain op_leI op_ltI k_le k_lt (d_call G_frame_cell (hr.mono (by decide)) rfl T.g_frame_cell kp_frame_cell b_frame_cell (fun σ => passAt (takes_of rfl rfl rfl rfl) σ) (d_cons (d_var (pv 0)) (d_cons (d_int pe_int) (d_cons (d_int pe_int) d_nil)))) (d_var (pv 1)) (d_call G_frame_cell (hr.mono (by decide)) rfl T.g_frame_cell kp_frame_cell b_frame_cell (fun σ => passAt (takes_of rfl rfl rfl rfl) σ) (d_cons (d_var (pv 0)) (d_cons (d_int (pe_gint rfl T.c_FRAMES)) (d_cons (d_int pe_int) d_nil))))) (d_or1 (d_tru (d_call G_is_register (hr.mono (by decide)) rfl T.g_is_register kp_is_register b_is_register (fun σ => passAt (takes_of rfl rfl rfl rfl) σ) (d_cons (d_var (pv 0)) (d_cons (d_var (pv 1)) d_nil))))))) (y_one (y_ret (d_bl pe_bl))) y_nil)
  (y_one (y_ret (d_vor (d_chain op_leI op_ltI k_le k_lt (d_call G_table_word (hr.mono (by decide)) rfl T.g_table_word kp_table_word b_table_word (fun σ => passAt (takes_of rfl rfl rfl rfl) σ) (d_cons (d_var (pv 0)) (d_cons (d_int pe_int) d_nil))) (d_var (pv 1)) (d_call G_table_word (hr.mono (by decide)) rfl T.g_table_word kp_table_word b_table_word (fun σ => passAt (takes_of rfl rfl rfl rfl) σ) (d_cons (d_var (pv 0)) (d_cons (d_int (pe_gint rfl T.c_PAGES)) d_nil)))) (d_vone (d_cmp (op_eqM (hu65 hr)) k_eq (d_var (pv 1)) (d_call G_acknowledge (hr.mono (by decide)) rfl T.g_acknowledge kp_acknowledge b_acknowledge (fun σ => passAt (takes_of rfl rfl rfl rfl) σ) (d_cons (d_var (pv 0)) d_nil)) (nomark _)))))))
theorem sc_Memory_check_block : FnScope N_Memory_check_block ["self", "block"] (defScope s_Memory_check_block) := ⟨rfl, rfl, rfl, by decide +kernel, rfl, by decide +kernel, by decide +kernel⟩
theorem ok_Memory_check_block (T : Tx P w K mg) (hF : ∃ fd, FunD K "check_block" "Memory.check_block" (defArgs s_Memory_check_block) (defBody s_Memory_check_block) (defScope s_Memory_check_block) [] [] (He.fAd K ("Memory", some "check_block")) fd) (h_is_within : Okd P w K mg base 1 (He.fAd K ("is_within", none)) ["value", "low", "high"] (spA K a_is_within)) : Okd P w K mg base 2 (He.fAd K ("Memory", some "check_block")) ["self", "block"] (spA K a_Memory_check_block) := by
  obtain ⟨fd_is_within, G_is_within, b_is_within, kp_is_within, _⟩ := h_is_within
  refine okA hF sc_Memory_check_block rfl rfl (fun _ _ _ _ _ _ us hl => match us, hl with | [_, _], _ => rfl) (fun cdv A outer s H E hr => ?_)
  have nd := sc_Memory_check_block.nd
  exact (y_one (y_if (d_not (d_tru (d_call G_is_within (hr.mono (by decide)) rfl T.g_is_within kp_is_within b_is_within (fun σ => passAt (takes_of rfl rfl rfl rfl) σ) (d_cons (d_var (pv 1)) (d_cons (d_int pe_int) (d_cons (d_op op_subN k_sub (d_int (pe_gint rfl T.c_BLOCKS)) (d_int pe_int)) d_nil)))))) (y_one (y_raise (ps_raise0 T.x_NotValid rfl (takes_of rfl rfl rfl rfl) rfl))) y_nil))
theorem sc_Memory_check_request : FnScope N_Memory_check_request ["self", "actor", "request"] (defScope s_Memory_check_request) := ⟨rfl, rfl, rfl, by decide +kernel, rfl, by decide +kernel, by decide +kernel⟩
theorem ok_Memory_check_request (T : Tx P w K mg) (hF : ∃ fd, FunD K "check_request" "Memory.check_request" (defArgs s_Memory_check_request) (defBody s_Memory_check_request) (defScope s_Memory_check_request) [] [] (He.fAd K ("Memory", some "check_request")) fd) (h_Memory_check_cell : Okd P w K mg base 2 (He.fAd K ("Memory", some "check_cell")) ["self", "cell"] (spA K a_Memory_check_cell)) (h_is_of_driver : Okd P w K mg base 4 (He.fAd K ("is_of_driver", none)) ["device", "cell"] (spA K a_is_of_driver)) (h_is_register : Okd P w K mg base 3 (He.fAd K ("is_register", none)) ["device", "cell"] (spA K a_is_register)) (h_is_within : Okd P w K mg base 1 (He.fAd K ("is_within", none)) ["value", "low", "high"] (spA K a_is_within)) (h_Memory_check_block : Okd P w K mg base 2 (He.fAd K ("Memory", some "check_block")) ["self", "block"] (spA K a_Memory_check_block)) : Okd P w K mg base 5 (He.fAd K ("Memory", some "check_request")) ["self", "actor", "request"] (spA K a_Memory_check_request) := by
  obtain ⟨fd_Memory_check_cell, G_Memory_check_cell, b_Memory_check_cell, kp_Memory_check_cell, _⟩ := h_Memory_check_cell
  obtain ⟨fd_is_of_driver, G_is_of_driver, b_is_of_driver, kp_is_of_driver, _⟩ := h_is_of_driver
  obtain ⟨fd_is_register, G_is_register, b_is_register, kp_is_register, _⟩ := h_is_register
  obtain ⟨fd_is_within, G_is_within, b_is_within, kp_is_within, _⟩ := h_is_within
  obtain ⟨fd_Memory_check_block, G_Memory_check_block, b_Memory_check_block, kp_Memory_check_block, _⟩ := h_Memory_check_block
  refine okA hF sc_Memory_check_request rfl rfl (fun _ _ _ _ _ _ us hl => match us, hl with | [_, _, _], _ => rfl) (fun cdv A outer s H E hr => ?_)
  have nd := sc_Memory_check_request.nd
  exact (y_cons (y_set (ps_set (i := 3) nd rfl (Or.inl rfl) (d_ix (d_var (pv 2)) (d_int pe_int) (fun _ _ => rfl))))
  (y_one (y_if (PW.pt (d_or (d_tcmp (op_eqM (hu65 hr)) k_eq (d_var (pv 3)) (d_str "read" pe_str so_10) (nomark _)) (d_or1 (d_tcmp (op_eqM (hu65 hr)) k_eq (d_var (pv 3)) (d_str "write" pe_str so_1) (nomark _))))) (y_cons (y_drop (d_meth (d_var (pv 0)) T.cl_Memory T.m_Memory__check_cell G_Memory_check_cell (hr.mono (by decide)) b_Memory_check_cell (fun σ => passAt (takes_of rfl rfl rfl rfl) σ) (d_cons (d_ix (d_var (pv 2)) (d_int pe_int) (fun _ _ => rfl)) d_nil)))
  (y_cons (y_if (PW.pt (d_and (d_tcmp (op_eqM (hu65 hr)) k_eq (d_ix (d_var (pv 1)) (d_int pe_int) (fun _ _ => rfl)) (d_str "driver" pe_str so_9) (nomark _)) (d_and1 (d_not (d_tru (d_call G_is_of_driver (hr.mono (by decide)) rfl T.g_is_of_driver kp_is_of_driver b_is_of_driver (fun σ => passAt (takes_of rfl rfl rfl rfl) σ) (d_cons (d_ix (d_var (pv 1)) (d_int pe_int) (fun _ _ => rfl)) (d_cons (d_ix (d_var (pv 2)) (d_int pe_int) (fun _ _ => rfl)) d_nil)))))))) (y_one (y_raise (ps_raise0 T.x_NotValid rfl (takes_of rfl rfl rfl rfl) rfl))) y_nil)
  (y_one (y_if (PW.pt (d_and (d_tcmp (op_eqM (hu65 hr)) k_eq (d_ix (d_var (pv 1)) (d_int pe_int) (fun _ _ => rfl)) (d_str "device" pe_str so_3) (nomark _)) (d_and1 (d_not (d_tru (d_call G_is_register (hr.mono (by decide)) rfl T.g_is_register kp_is_register b_is_register (fun σ => passAt (takes_of rfl rfl rfl rfl) σ) (d_cons (d_ix (d_var (pv 1)) (d_int pe_int) (fun _ _ => rfl)) (d_cons (d_ix (d_var (pv 2)) (d_int pe_int) (fun _ _ => rfl)) d_nil)))))))) (y_one (y_raise (ps_raise0 T.x_NotValid rfl (takes_of rfl rfl rfl rfl) rfl))) y_nil)))) (y_one (y_if (d_tcmp (op_inM (hu65 hr)) k_in (d_var (pv 3)) (d_tup (d_cons (d_str "dma read" pe_str so_11) (d_cons (d_str "dma write" pe_str so_12) (d_cons (d_str "command" pe_str so_13) d_nil)))) rfl) (y_cons (y_if (d_not (d_tru (d_call G_is_within (hr.mono (by decide)) rfl T.g_is_within kp_is_within b_is_within (fun σ => passAt (takes_of rfl rfl rfl rfl) σ) (d_cons (d_ix (d_var (pv 2)) (d_int pe_int) (fun _ _ => rfl)) (d_cons (d_int pe_int) (d_cons (d_op op_subN k_sub (d_int (pe_gint rfl T.c_PAGES)) (d_int pe_int)) d_nil)))))) (y_one (y_raise (ps_raise0 T.x_NotValid rfl (takes_of rfl rfl rfl rfl) rfl))) y_nil)
  (y_one (y_if (PW.pt (d_and (d_tcmp (op_neM (hu65 hr)) k_ne (d_var (pv 3)) (d_str "command" pe_str so_13) (nomark _)) (d_and1 (d_not (d_tru (d_call G_is_within (hr.mono (by decide)) rfl T.g_is_within kp_is_within b_is_within (fun σ => passAt (takes_of rfl rfl rfl rfl) σ) (d_cons (d_ix (d_var (pv 2)) (d_int pe_int) (fun _ _ => rfl)) (d_cons (d_int pe_int) (d_cons (d_op op_subN k_sub (d_int (pe_gint rfl T.c_CELLS)) (d_int pe_int)) d_nil))))))))) (y_one (y_raise (ps_raise0 T.x_NotValid rfl (takes_of rfl rfl rfl rfl) rfl))) y_nil))) (y_one (y_if (PW.pt (d_or (d_tcmp (op_eqM (hu65 hr)) k_eq (d_var (pv 3)) (d_str "fetch" pe_str so_14) (nomark _)) (d_or1 (d_tcmp (op_eqM (hu65 hr)) k_eq (d_var (pv 3)) (d_str "commit" pe_str so_15) (nomark _))))) (y_cons (y_drop (d_meth (d_var (pv 0)) T.cl_Memory T.m_Memory__check_block G_Memory_check_block (hr.mono (by decide)) b_Memory_check_block (fun σ => passAt (takes_of rfl rfl rfl rfl) σ) (d_cons (d_ix (d_var (pv 2)) (d_int pe_int) (fun _ _ => rfl)) d_nil)))
  (y_one (y_if (PW.pt (d_and (d_tcmp (op_eqM (hu65 hr)) k_eq (d_var (pv 3)) (d_str "commit" pe_str so_15) (nomark _)) (d_and1 (PW.pt (d_or (d_not (d_tru (d_callB cr_isi k_isi (by rfl) T.b_isinstance (by decide +kernel) (d_cons (d_ix (d_var (pv 2)) (d_int pe_int) (fun _ _ => rfl)) (d_cons (d_ty (pe_bltn (v := .ty "tuple") (by rfl) T.b_tuple (by decide +kernel) rfl)) d_nil))))) (d_or1 (d_tcmp (op_neM (hu65 hr)) k_ne (d_callB cr_lenM k_len (by rfl) T.b_len (by decide +kernel) (d_cons (d_ix (d_var (pv 2)) (d_int pe_int) (fun _ _ => rfl)) d_nil)) (d_int (pe_gint rfl T.c_CELLS)) (nomark _)))))))) (y_one (y_raise (ps_raise0 T.x_NotValid rfl (takes_of rfl rfl rfl rfl) rfl))) y_nil))) (y_one (y_if (PW.pt (d_and (d_tcmp (op_eqM (hu65 hr)) k_eq (d_var (pv 3)) (d_str "tell" pe_str so_16) (nomark _)) (d_and1 (d_not (d_tru (d_callB cr_isi k_isi (by rfl) T.b_isinstance (by decide +kernel) (d_cons (d_ix (d_var (pv 2)) (d_int pe_int) (fun _ _ => rfl)) (d_cons (d_ty (pe_bltn (v := .ty "tuple") (by rfl) T.b_tuple (by decide +kernel) rfl)) d_nil)))))))) (y_one (y_raise (ps_raise0 T.x_NotValid rfl (takes_of rfl rfl rfl rfl) rfl))) y_nil)))))))))
theorem sc_Guard_command : FnScope N_Guard_command ["self", "page"] (defScope s_Guard_command) := ⟨rfl, rfl, rfl, by decide +kernel, rfl, by decide +kernel, by decide +kernel⟩
theorem ok_Guard_command (T : Tx P w K mg) (hF : ∃ fd, FunD K "command" "Guard.command" (defArgs s_Guard_command) (defBody s_Guard_command) (defScope s_Guard_command) [] [] (He.fAd K ("Guard", some "command")) fd)  : Okd P w K mg base 1 (He.fAd K ("Guard", some "command")) ["self", "page"] (spA K a_Guard_command) := by
  refine okA hF sc_Guard_command rfl rfl (fun _ _ _ _ _ _ us hl => match us, hl with | [_, _], _ => rfl) (fun cdv A outer s H E hr => ?_)
  have nd := sc_Guard_command.nd
  exact (y_cons (y_fa "tickets" (d_var (pv 0)) (d_int pe_int))
  (y_cons (y_drop (d_app (d_fld "waiting" (d_var (pv 0)) rfl) (d_cons (d_tup (d_cons (d_var (pv 1)) (d_cons (d_fld "tickets" (d_var (pv 0)) rfl) d_nil))) d_nil)))
  (y_one (y_ret (d_fld "tickets" (d_var (pv 0)) rfl)))))
theorem sc_Guard_drop : FnScope N_Guard_drop ["self"] (defScope s_Guard_drop) := ⟨rfl, rfl, rfl, by decide +kernel, rfl, by decide +kernel, by decide +kernel⟩
theorem ok_Guard_drop (T : Tx P w K mg) (hF : ∃ fd, FunD K "drop" "Guard.drop" (defArgs s_Guard_drop) (defBody s_Guard_drop) (defScope s_Guard_drop) [] [] (He.fAd K ("Guard", some "drop")) fd)  : Okd P w K mg base 1 (He.fAd K ("Guard", some "drop")) ["self"] (spA K a_Guard_drop) := by
  refine okA hF sc_Guard_drop rfl rfl (fun _ _ _ _ _ _ us hl => match us, hl with | [_], _ => rfl) (fun cdv A outer s H E hr => ?_)
  have nd := sc_Guard_drop.nd
  exact (y_cons (y_if (d_not (d_tru (d_fld "waiting" (d_var (pv 0)) rfl))) (y_one (y_ret (d_non pe_non))) y_nil)
  (y_cons (y_asg (d_ix (d_fld "waiting" (d_var (pv 0)) rfl) (d_int pe_int) (fun _ _ => rfl)) (g_tup rfl (g_cons (g_name (pg_name (i := 1) nd rfl (Or.inl rfl))) (g_cons (g_name (pg_name (i := 2) nd rfl (Or.inl rfl))) g_nil))))
  (y_cons (y_sf "waiting" (d_var (pv 0)) (d_sl (d_fld "waiting" (d_var (pv 0)) rfl) (d_part (d_int pe_int)) d_nopart) rfl)
  (y_cons (y_drop (d_dpop2 (d_fld "kept" (d_var (pv 0)) rfl) (d_var (pv 1)) (d_non pe_non) ⟨rfl, rfl, rfl, rfl⟩))
  (y_one (y_ret (d_var (pv 2))))))))
theorem sc_Memory_drop : FnScope N_Memory_drop ["self", "device"] (defScope s_Memory_drop) := ⟨rfl, rfl, rfl, by decide +kernel, rfl, by decide +kernel, by decide +kernel⟩
theorem ok_Memory_drop (T : Tx P w K mg) (hF : ∃ fd, FunD K "drop" "Memory.drop" (defArgs s_Memory_drop) (defBody s_Memory_drop) (defScope s_Memory_drop) [] [] (He.fAd K ("Memory", some "drop")) fd) (h_Guard_drop : Okd P w K mg base 1 (He.fAd K ("Guard", some "drop")) ["self"] (spA K a_Guard_drop)) (h_acknowledge : Okd P w K mg base 1 (He.fAd K ("acknowledge", none)) ["device"] (spA K a_acknowledge)) : Okd P w K mg base 2 (He.fAd K ("Memory", some "drop")) ["self", "device"] (spA K a_Memory_drop) := by
  obtain ⟨fd_Guard_drop, G_Guard_drop, b_Guard_drop, kp_Guard_drop, _⟩ := h_Guard_drop
  obtain ⟨fd_acknowledge, G_acknowledge, b_acknowledge, kp_acknowledge, _⟩ := h_acknowledge
  refine okA hF sc_Memory_drop rfl rfl (fun _ _ _ _ _ _ us hl => match us, hl with | [_, _], _ => rfl) (fun cdv A outer s H E hr => ?_)
  have nd := sc_Memory_drop.nd
  exact (y_cons (y_set (ps_set (i := 2) nd rfl (Or.inl rfl) (d_meth0 (d_ix (d_fld "guards" (d_var (pv 0)) rfl) (d_var (pv 1)) (fun _ _ => rfl)) T.cl_Guard T.m_Guard__drop G_Guard_drop (hr.mono (by decide)) b_Guard_drop)))
  (y_cons (y_if (d_tcmp op_isN1 k_isN (d_var (pv 2)) (d_non pe_non) (nomark _)) (y_one (y_ret (d_bl pe_bl))) y_nil)
  (y_cons (y_asg (d_var (pv 2)) (g_sub (d_fld "held" (d_var (pv 0)) rfl) (d_call G_acknowledge (hr.mono (by decide)) rfl T.g_acknowledge kp_acknowledge b_acknowledge (fun σ => passAt takes0 σ) (d_cons (d_var (pv 1)) d_nil))))
  (y_one (y_ret (d_bl pe_bl))))))
theorem sc_is_word : FnScope N_is_word ["value"] (defScope s_is_word) := ⟨rfl, rfl, rfl, by decide +kernel, rfl, by decide +kernel, by decide +kernel⟩
theorem ok_is_word (T : Tx P w K mg) (hF : ∃ fd, FunD K "is_word" "is_word" (defArgs s_is_word) (defBody s_is_word) (defScope s_is_word) [] [] (He.fAd K ("is_word", none)) fd) (h_is_within : Okd P w K mg base 1 (He.fAd K ("is_within", none)) ["value", "low", "high"] (spA K a_is_within)) : Okd P w K mg base 2 (He.fAd K ("is_word", none)) ["value"] (spA K a_is_word) := by
  obtain ⟨fd_is_within, G_is_within, b_is_within, kp_is_within, _⟩ := h_is_within
  refine okA hF sc_is_word rfl rfl (fun _ _ _ _ _ _ us hl => match us, hl with | [_], _ => rfl) (fun cdv A outer s H E hr => ?_)
  have nd := sc_is_word.nd
  exact (y_cons (y_if (d_tcmp op_isN1 k_isN (d_var (pv 0)) (d_non pe_non) (nomark _)) (y_one (y_ret (d_bl pe_bl))) y_nil)
  (y_cons (y_if (PW.pt (d_or (d_not (d_tru (d_callB cr_isi k_isi (by rfl) T.b_isinstance (by decide +kernel) (d_cons (d_var (pv 0)) (d_cons (d_ty (pe_bltn (v := .ty "tuple") (by rfl) T.b_tuple (by decide +kernel) rfl)) d_nil))))) (d_or (d_tcmp (op_neM (hu65 hr)) k_ne (d_callB cr_lenM k_len (by rfl) T.b_len (by decide +kernel) (d_cons (d_var (pv 0)) d_nil)) (d_int pe_int) (nomark _)) (d_or1 (d_not (d_tru (d_call G_is_within (hr.mono (by decide)) rfl T.g_is_within kp_is_within b_is_within (fun σ => passAt (takes_of rfl rfl rfl rfl) σ) (d_cons (d_ix (d_var (pv 0)) (d_int pe_int) (fun _ _ => rfl)) (d_cons (d_int pe_int) (d_cons (d_op op_subN k_sub (d_int (pe_gint rfl T.c_FRAMES)) (d_int pe_int)) d_nil)))))))))) (y_one (y_ret (d_bl pe_bl))) y_nil)
  (y_one (y_ret (d_vand (d_callB cr_isi k_isi (by rfl) T.b_isinstance (by decide +kernel) (d_cons (d_ix (d_var (pv 0)) (d_int pe_int) (fun _ _ => rfl)) (d_cons (d_ty (pe_bltn (v := .ty "str") (by rfl) T.b_str (by decide +kernel) rfl)) d_nil))) (d_vone (d_cmp (op_inM (hu65 hr)) k_in (d_ix (d_var (pv 0)) (d_int pe_int) (fun _ _ => rfl)) (d_c (pe_glob (v := .ref (He.ga K "RIGHTS")) rfl T.g_RIGHTS rfl) T.v_RIGHTS) rfl)))))))
theorem sc_Guard_use : FnScope N_Guard_use ["self", "page", "right", "word"] (defScope s_Guard_use) := ⟨rfl, rfl, rfl, by decide +kernel, rfl, by decide +kernel, by decide +kernel⟩
theorem ok_Guard_use (T : Tx P w K mg) (hF : ∃ fd, FunD K "use" "Guard.use" (defArgs s_Guard_use) (defBody s_Guard_use) (defScope s_Guard_use) [] [] (He.fAd K ("Guard", some "use")) fd)  : Okd P w K mg base 1 (He.fAd K ("Guard", some "use")) ["self", "page", "right", "word"] (spA K a_Guard_use) := by
  refine okA hF sc_Guard_use rfl rfl (fun _ _ _ _ _ _ us hl => match us, hl with | [_, _, _, _], _ => rfl) (fun cdv A outer s H E hr => ?_)
  have nd := sc_Guard_use.nd
  exact (y_cons (y_if (PW.pt (d_and (d_tpc (c_dni (hu_of hr) (d_var (pv 1)) (d_fld "kept" (d_var (pv 0)) rfl))) (d_and1 (d_tcmp op_notN1 k_notN (d_var (pv 3)) (d_non pe_non) (nomark _))))) (y_one (y_putK (hu_of hr) (d_fld "kept" (d_var (pv 0)) rfl) (d_var (pv 1)) (d_var (pv 3)) rfl)) y_nil)
  (y_cons (y_set (ps_set (i := 4) nd rfl (Or.inl rfl) (d_dget1 (hu_of hr) (d_fld "kept" (d_var (pv 0)) rfl) (d_var (pv 1)) ⟨rfl, rfl, rfl, rfl⟩)))
  (y_cons (y_if (PW.pt (d_or (d_tcmp op_isN1 k_isN (d_var (pv 4)) (d_non pe_non) (nomark _)) (d_or1 (d_tcmp (op_neM (hu65 hr)) k_ne (d_ix (d_var (pv 4)) (d_int pe_int) (fun _ _ => rfl)) (d_var (pv 2)) (nomark _))))) (y_one (y_ret (d_non pe_non))) y_nil)
  (y_one (y_ret (d_ix (d_var (pv 4)) (d_int pe_int) (fun _ _ => rfl)))))))
theorem sc_Memory_dma_read : FnScope N_Memory_dma_read ["self", "device", "frame", "index"] (defScope s_Memory_dma_read) := ⟨rfl, rfl, rfl, by decide +kernel, rfl, by decide +kernel, by decide +kernel⟩
theorem ok_Memory_dma_read (T : Tx P w K mg) (hF : ∃ fd, FunD K "dma_read" "Memory.dma_read" (defArgs s_Memory_dma_read) (defBody s_Memory_dma_read) (defScope s_Memory_dma_read) [] [] (He.fAd K ("Memory", some "dma_read")) fd) (h_frame_cell : Okd P w K mg base 1 (He.fAd K ("frame_cell", none)) ["device", "frame", "index"] (spA K a_frame_cell)) : Okd P w K mg base 2 (He.fAd K ("Memory", some "dma_read")) ["self", "device", "frame", "index"] (spA K a_Memory_dma_read) := by
  obtain ⟨fd_frame_cell, G_frame_cell, b_frame_cell, kp_frame_cell, _⟩ := h_frame_cell
  refine okA hF sc_Memory_dma_read rfl rfl (fun _ _ _ _ _ _ us hl => match us, hl with | [_, _, _, _], _ => rfl) (fun cdv A outer s H E hr => ?_)
  have nd := sc_Memory_dma_read.nd
  exact (y_cons (y_if (d_tcmp op_isN1 k_isN (d_var (pv 2)) (d_non pe_non) (nomark _)) (y_one (y_ret (d_non pe_non))) y_nil)
  (y_one (y_ret (d_tup (d_cons (d_ix (d_fld "held" (d_var (pv 0)) rfl) (d_call G_frame_cell (hr.mono (by decide)) rfl T.g_frame_cell kp_frame_cell b_frame_cell (fun σ => passAt (takes_of rfl rfl rfl rfl) σ) (d_cons (d_var (pv 1)) (d_cons (d_var (pv 2)) (d_cons (d_var (pv 3)) d_nil)))) (fun _ _ => rfl)) d_nil)))))
theorem sc_Memory_dma_write : FnScope N_Memory_dma_write ["self", "device", "frame", "index", "value"] (defScope s_Memory_dma_write) := ⟨rfl, rfl, rfl, by decide +kernel, rfl, by decide +kernel, by decide +kernel⟩
theorem ok_Memory_dma_write (T : Tx P w K mg) (hF : ∃ fd, FunD K "dma_write" "Memory.dma_write" (defArgs s_Memory_dma_write) (defBody s_Memory_dma_write) (defScope s_Memory_dma_write) [] [] (He.fAd K ("Memory", some "dma_write")) fd) (h_frame_cell : Okd P w K mg base 1 (He.fAd K ("frame_cell", none)) ["device", "frame", "index"] (spA K a_frame_cell)) : Okd P w K mg base 2 (He.fAd K ("Memory", some "dma_write")) ["self", "device", "frame", "index", "value"] (spA K a_Memory_dma_write) := by
  obtain ⟨fd_frame_cell, G_frame_cell, b_frame_cell, kp_frame_cell, _⟩ := h_frame_cell
  refine okA hF sc_Memory_dma_write rfl rfl (fun _ _ _ _ _ _ us hl => match us, hl with | [_, _, _, _, _], _ => rfl) (fun cdv A outer s H E hr => ?_)
  have nd := sc_Memory_dma_write.nd
  exact (y_cons (y_if (d_tcmp op_isN1 k_isN (d_var (pv 2)) (d_non pe_non) (nomark _)) (y_one (y_ret (d_bl pe_bl))) y_nil)
  (y_cons (y_asg (d_var (pv 4)) (g_sub (d_fld "held" (d_var (pv 0)) rfl) (d_call G_frame_cell (hr.mono (by decide)) rfl T.g_frame_cell kp_frame_cell b_frame_cell (fun σ => passAt takes0 σ) (d_cons (d_var (pv 1)) (d_cons (d_var (pv 2)) (d_cons (d_var (pv 3)) d_nil))))))
  (y_one (y_ret (d_bl pe_bl)))))
theorem sc_Memory_device_result : FnScope N_Memory_device_result ["self", "device", "request"] (defScope s_Memory_device_result) := ⟨rfl, rfl, rfl, by decide +kernel, rfl, by decide +kernel, by decide +kernel⟩
theorem ok_Memory_device_result (T : Tx P w K mg) (hF : ∃ fd, FunD K "device_result" "Memory.device_result" (defArgs s_Memory_device_result) (defBody s_Memory_device_result) (defScope s_Memory_device_result) [] [] (He.fAd K ("Memory", some "device_result")) fd) (h_table_word : Okd P w K mg base 1 (He.fAd K ("table_word", none)) ["device", "page"] (spA K a_table_word)) (h_is_word : Okd P w K mg base 2 (He.fAd K ("is_word", none)) ["value"] (spA K a_is_word)) (h_Guard_use : Okd P w K mg base 1 (He.fAd K ("Guard", some "use")) ["self", "page", "right", "word"] (spA K a_Guard_use)) (h_Memory_dma_read : Okd P w K mg base 2 (He.fAd K ("Memory", some "dma_read")) ["self", "device", "frame", "index"] (spA K a_Memory_dma_read)) (h_Memory_dma_write : Okd P w K mg base 2 (He.fAd K ("Memory", some "dma_write")) ["self", "device", "frame", "index", "value"] (spA K a_Memory_dma_write)) : Okd P w K mg base 3 (He.fAd K ("Memory", some "device_result")) ["self", "device", "request"] (spA K a_Memory_device_result) := by
  obtain ⟨fd_table_word, G_table_word, b_table_word, kp_table_word, _⟩ := h_table_word
  obtain ⟨fd_is_word, G_is_word, b_is_word, kp_is_word, _⟩ := h_is_word
  obtain ⟨fd_Guard_use, G_Guard_use, b_Guard_use, kp_Guard_use, _⟩ := h_Guard_use
  obtain ⟨fd_Memory_dma_read, G_Memory_dma_read, b_Memory_dma_read, kp_Memory_dma_read, _⟩ := h_Memory_dma_read
  obtain ⟨fd_Memory_dma_write, G_Memory_dma_write, b_Memory_dma_write, kp_Memory_dma_write, _⟩ := h_Memory_dma_write
  refine okA hF sc_Memory_device_result rfl rfl (fun _ _ _ _ _ _ us hl => match us, hl with | [_, _, _], _ => rfl) (fun cdv A outer s H E hr => ?_)
  have nd := sc_Memory_device_result.nd
  exact (y_cons (y_set (ps_set (i := 3) nd rfl (Or.inl rfl) (d_ix (d_var (pv 2)) (d_int pe_int) (fun _ _ => rfl))))
  (y_cons (y_if (d_tcmp (op_eqM (hu65 hr)) k_eq (d_var (pv 3)) (d_str "fetch" pe_str so_14) (nomark _)) (y_one (y_ret (d_ix (d_ix (d_fld "stored" (d_var (pv 0)) rfl) (d_var (pv 1)) (fun _ _ => rfl)) (d_ix (d_var (pv 2)) (d_int pe_int) (fun _ _ => rfl)) (fun _ _ => rfl)))) y_nil)
  (y_cons (y_if (d_tcmp (op_eqM (hu65 hr)) k_eq (d_var (pv 3)) (d_str "commit" pe_str so_15) (nomark _)) (y_cons (y_asg (d_ix (d_var (pv 2)) (d_int pe_int) (fun _ _ => rfl)) (g_sub (d_ix (d_fld "stored" (d_var (pv 0)) rfl) (d_var (pv 1)) (fun _ _ => rfl)) (d_ix (d_var (pv 2)) (d_int pe_int) (fun _ _ => rfl))))
  (y_cons (y_asg (d_op op_addA k_add (d_ix (d_fld "journals" (d_var (pv 0)) rfl) (d_var (pv 1)) (fun _ _ => rfl)) (d_tup (d_cons (d_tup (d_cons (d_ix (d_var (pv 2)) (d_int pe_int) (fun _ _ => rfl)) (d_cons (d_ix (d_var (pv 2)) (d_int pe_int) (fun _ _ => rfl)) d_nil))) d_nil))) (g_sub (d_fld "journals" (d_var (pv 0)) rfl) (d_var (pv 1))))
  (y_one (y_ret (d_non pe_non))))) y_nil)
  (y_cons (y_set (ps_set (i := 4) nd rfl (Or.inl rfl) (d_str "r" pe_str so_7)))
  (y_cons (y_if (d_tcmp (op_eqM (hu65 hr)) k_eq (d_var (pv 3)) (d_str "dma write" pe_str so_12) (nomark _)) (y_one (y_set (ps_set (i := 4) nd rfl (Or.inl rfl) (d_str "w" pe_str so_8)))) y_nil)
  (y_cons (y_set (ps_set (i := 5) nd rfl (Or.inl rfl) (d_ix (d_fld "held" (d_var (pv 0)) rfl) (d_call G_table_word (hr.mono (by decide)) rfl T.g_table_word kp_table_word b_table_word (fun σ => passAt (takes_of rfl rfl rfl rfl) σ) (d_cons (d_var (pv 1)) (d_cons (d_ix (d_var (pv 2)) (d_int pe_int) (fun _ _ => rfl)) d_nil))) (fun _ _ => rfl))))
  (y_cons (y_if (d_not (d_tru (d_call G_is_word (hr.mono (by decide)) rfl T.g_is_word kp_is_word b_is_word (fun σ => passAt (takes_of rfl rfl rfl rfl) σ) (d_cons (d_var (pv 5)) d_nil)))) (y_one (y_set (ps_set (i := 5) nd rfl (Or.inl rfl) (d_non pe_non)))) y_nil)
  (y_cons (y_set (ps_set (i := 6) nd rfl (Or.inl rfl) (d_meth (d_ix (d_fld "guards" (d_var (pv 0)) rfl) (d_var (pv 1)) (fun _ _ => rfl)) T.cl_Guard T.m_Guard__use G_Guard_use (hr.mono (by decide)) b_Guard_use (fun σ => passAt (takes_of rfl rfl rfl rfl) σ) (d_cons (d_ix (d_var (pv 2)) (d_int pe_int) (fun _ _ => rfl)) (d_cons (d_var (pv 4)) (d_cons (d_var (pv 5)) d_nil))))))
  (y_cons (y_if (d_tcmp (op_eqM (hu65 hr)) k_eq (d_var (pv 3)) (d_str "dma read" pe_str so_11) (nomark _)) (y_one (y_ret (d_meth (d_var (pv 0)) T.cl_Memory T.m_Memory__dma_read G_Memory_dma_read (hr.mono (by decide)) b_Memory_dma_read (fun σ => passAt (takes_of rfl rfl rfl rfl) σ) (d_cons (d_var (pv 1)) (d_cons (d_var (pv 6)) (d_cons (d_ix (d_var (pv 2)) (d_int pe_int) (fun _ _ => rfl)) d_nil)))))) y_nil)
  (y_one (y_ret (d_meth (d_var (pv 0)) T.cl_Memory T.m_Memory__dma_write G_Memory_dma_write (hr.mono (by decide)) b_Memory_dma_write (fun σ => passAt (takes_of rfl rfl rfl rfl) σ) (d_cons (d_var (pv 1)) (d_cons (d_var (pv 6)) (d_cons (d_ix (d_var (pv 2)) (d_int pe_int) (fun _ _ => rfl)) (d_cons (d_ix (d_var (pv 2)) (d_int pe_int) (fun _ _ => rfl)) d_nil))))))))))))))))
theorem sc_Memory_result : FnScope N_Memory_result ["self", "device", "request"] (defScope s_Memory_result) := ⟨rfl, rfl, rfl, by decide +kernel, rfl, by decide +kernel, by decide +kernel⟩
theorem ok_Memory_result (T : Tx P w K mg) (hF : ∃ fd, FunD K "result" "Memory.result" (defArgs s_Memory_result) (defBody s_Memory_result) (defScope s_Memory_result) [] [] (He.fAd K ("Memory", some "result")) fd) (h_Guard_command : Okd P w K mg base 1 (He.fAd K ("Guard", some "command")) ["self", "page"] (spA K a_Guard_command)) (h_Memory_drop : Okd P w K mg base 2 (He.fAd K ("Memory", some "drop")) ["self", "device"] (spA K a_Memory_drop)) (h_Memory_device_result : Okd P w K mg base 3 (He.fAd K ("Memory", some "device_result")) ["self", "device", "request"] (spA K a_Memory_device_result)) : Okd P w K mg base 4 (He.fAd K ("Memory", some "result")) ["self", "device", "request"] (spA K a_Memory_result) := by
  obtain ⟨fd_Guard_command, G_Guard_command, b_Guard_command, kp_Guard_command, _⟩ := h_Guard_command
  obtain ⟨fd_Memory_drop, G_Memory_drop, b_Memory_drop, kp_Memory_drop, _⟩ := h_Memory_drop
  obtain ⟨fd_Memory_device_result, G_Memory_device_result, b_Memory_device_result, kp_Memory_device_result, _⟩ := h_Memory_device_result
  refine okA hF sc_Memory_result rfl rfl (fun _ _ _ _ _ _ us hl => match us, hl with | [_, _, _], _ => rfl) (fun cdv A outer s H E hr => ?_)
  have nd := sc_Memory_result.nd
  exact (y_cons (y_set (ps_set (i := 3) nd rfl (Or.inl rfl) (d_ix (d_var (pv 2)) (d_int pe_int) (fun _ _ => rfl))))
  (y_cons (y_if (d_tcmp (op_eqM (hu65 hr)) k_eq (d_var (pv 3)) (d_str "read" pe_str so_10) (nomark _)) (y_one (y_ret (d_ix (d_fld "held" (d_var (pv 0)) rfl) (d_ix (d_var (pv 2)) (d_int pe_int) (fun _ _ => rfl)) (fun _ _ => rfl)))) y_nil)
  (y_cons (y_if (d_tcmp (op_eqM (hu65 hr)) k_eq (d_var (pv 3)) (d_str "write" pe_str so_1) (nomark _)) (y_cons (y_asg (d_ix (d_var (pv 2)) (d_int pe_int) (fun _ _ => rfl)) (g_sub (d_fld "held" (d_var (pv 0)) rfl) (d_ix (d_var (pv 2)) (d_int pe_int) (fun _ _ => rfl))))
  (y_one (y_ret (d_non pe_non)))) y_nil)
  (y_cons (y_if (d_tcmp (op_eqM (hu65 hr)) k_eq (d_var (pv 3)) (d_str "command" pe_str so_13) (nomark _)) (y_one (y_ret (d_meth (d_ix (d_fld "guards" (d_var (pv 0)) rfl) (d_var (pv 1)) (fun _ _ => rfl)) T.cl_Guard T.m_Guard__command G_Guard_command (hr.mono (by decide)) b_Guard_command (fun σ => passAt (takes_of rfl rfl rfl rfl) σ) (d_cons (d_ix (d_var (pv 2)) (d_int pe_int) (fun _ _ => rfl)) d_nil)))) y_nil)
  (y_cons (y_if (d_tcmp (op_eqM (hu65 hr)) k_eq (d_var (pv 3)) (d_str "drop" pe_str so_17) (nomark _)) (y_one (y_ret (d_meth (d_var (pv 0)) T.cl_Memory T.m_Memory__drop G_Memory_drop (hr.mono (by decide)) b_Memory_drop (fun σ => passAt (takes_of rfl rfl rfl rfl) σ) (d_cons (d_var (pv 1)) d_nil)))) y_nil)
  (y_cons (y_if (d_tcmp (op_eqM (hu65 hr)) k_eq (d_var (pv 3)) (d_str "journal" pe_str so_18) (nomark _)) (y_one (y_ret (d_ix (d_fld "journals" (d_var (pv 0)) rfl) (d_var (pv 1)) (fun _ _ => rfl)))) y_nil)
  (y_cons (y_if (d_tcmp (op_eqM (hu65 hr)) k_eq (d_var (pv 3)) (d_str "tell" pe_str so_16) (nomark _)) (y_cons (y_asg (d_ix (d_var (pv 2)) (d_int pe_int) (fun _ _ => rfl)) (g_sub (d_fld "journals" (d_var (pv 0)) rfl) (d_var (pv 1))))
  (y_one (y_ret (d_non pe_non)))) y_nil)
  (y_one (y_ret (d_meth (d_var (pv 0)) T.cl_Memory T.m_Memory__device_result G_Memory_device_result (hr.mono (by decide)) b_Memory_device_result (fun σ => passAt (takes_of rfl rfl rfl rfl) σ) (d_cons (d_var (pv 1)) (d_cons (d_var (pv 2)) d_nil))))))))))))
theorem sc_Memory_access : FnScope N_Memory_access ["self", "actor", "request"] (defScope s_Memory_access) := ⟨rfl, rfl, rfl, by decide +kernel, rfl, by decide +kernel, by decide +kernel⟩
theorem ok_Memory_access (T : Tx P w K mg) (hF : ∃ fd, FunD K "access" "Memory.access" (defArgs s_Memory_access) (defBody s_Memory_access) (defScope s_Memory_access) [] [] (He.fAd K ("Memory", some "access")) fd) (h_Memory_check_actor : Okd P w K mg base 2 (He.fAd K ("Memory", some "check_actor")) ["self", "actor", "request"] (spA K a_Memory_check_actor)) (h_Memory_check_request : Okd P w K mg base 5 (He.fAd K ("Memory", some "check_request")) ["self", "actor", "request"] (spA K a_Memory_check_request)) (h_Memory_result : Okd P w K mg base 4 (He.fAd K ("Memory", some "result")) ["self", "device", "request"] (spA K a_Memory_result)) : Okd P w K mg base 6 (He.fAd K ("Memory", some "access")) ["self", "actor", "request"] (spA K a_Memory_access) := by
  obtain ⟨fd_Memory_check_actor, G_Memory_check_actor, b_Memory_check_actor, kp_Memory_check_actor, _⟩ := h_Memory_check_actor
  obtain ⟨fd_Memory_check_request, G_Memory_check_request, b_Memory_check_request, kp_Memory_check_request, _⟩ := h_Memory_check_request
  obtain ⟨fd_Memory_result, G_Memory_result, b_Memory_result, kp_Memory_result, _⟩ := h_Memory_result
  refine okA hF sc_Memory_access rfl rfl (fun _ _ _ _ _ _ us hl => match us, hl with | [_, _, _], _ => rfl) (fun cdv A outer s H E hr => ?_)
  have nd := sc_Memory_access.nd
  exact (y_cons (y_drop (d_meth (d_var (pv 0)) T.cl_Memory T.m_Memory__check_actor G_Memory_check_actor (hr.mono (by decide)) b_Memory_check_actor (fun σ => passAt (takes_of rfl rfl rfl rfl) σ) (d_cons (d_var (pv 1)) (d_cons (d_var (pv 2)) d_nil))))
  (y_cons (y_drop (d_meth (d_var (pv 0)) T.cl_Memory T.m_Memory__check_request G_Memory_check_request (hr.mono (by decide)) b_Memory_check_request (fun σ => passAt (takes_of rfl rfl rfl rfl) σ) (d_cons (d_var (pv 1)) (d_cons (d_var (pv 2)) d_nil))))
  (y_cons (y_fa "count" (d_var (pv 0)) (d_int pe_int))
  (y_cons (y_set (ps_set (i := 3) nd rfl (Or.inl rfl) (d_meth (d_var (pv 0)) T.cl_Memory T.m_Memory__result G_Memory_result (hr.mono (by decide)) b_Memory_result (fun σ => passAt (takes_of rfl rfl rfl rfl) σ) (d_cons (d_ix (d_var (pv 1)) (d_int pe_int) (fun _ _ => rfl)) (d_cons (d_var (pv 2)) d_nil)))))
  (y_cons (y_drop (d_app (d_fld "rows" (d_var (pv 0)) rfl) (d_cons (d_tup (d_cons (d_fld "count" (d_var (pv 0)) rfl) (d_cons (d_var (pv 1)) (d_cons (d_var (pv 2)) (d_cons (d_var (pv 3)) d_nil))))) d_nil)))
  (y_one (y_ret (d_tup (d_cons (d_var (pv 3)) (d_cons (d_fld "count" (d_var (pv 0)) rfl) d_nil))))))))))
theorem sc_law_driver : FnScope N_law_driver ["_law_memory", "_law_request"] (defScope s_law_driver) := ⟨rfl, rfl, rfl, by decide +kernel, rfl, by decide +kernel, by decide +kernel⟩
theorem ok_law_driver (T : Tx P w K mg) (hF : ∃ fd, FunD K "_law_driver" "_law_driver" (defArgs s_law_driver) (defBody s_law_driver) (defScope s_law_driver) [] [] (He.fAd K ("_law_driver", none)) fd) (h_Memory_access : Okd P w K mg base 6 (He.fAd K ("Memory", some "access")) ["self", "actor", "request"] (spA K a_Memory_access)) : Okd P w K mg base 7 (He.fAd K ("_law_driver", none)) ["_law_memory", "_law_request"] (spA K a_law_driver) := by
  obtain ⟨fd_Memory_access, G_Memory_access, b_Memory_access, kp_Memory_access, _⟩ := h_Memory_access
  refine okA hF sc_law_driver rfl rfl (fun _ _ _ _ _ _ us hl => match us, hl with | [_, _], _ => rfl) (fun cdv A outer s H E hr => ?_)
  have nd := sc_law_driver.nd
  exact (y_one (y_drop (d_meth (d_var (pv 0)) T.cl_Memory T.m_Memory__access G_Memory_access (hr.mono (by decide)) b_Memory_access (fun σ => passAt (takes_of rfl rfl rfl rfl) σ) (d_cons (d_tup (d_cons (d_str "driver" pe_str so_9) (d_cons (d_int pe_int) d_nil))) (d_cons (d_var (pv 1)) d_nil)))))
theorem sc_law_begin : FnScope N_law_begin ["_law_memory"] (defScope s_law_begin) := ⟨rfl, rfl, rfl, by decide +kernel, rfl, by decide +kernel, by decide +kernel⟩
theorem ok_law_begin (T : Tx P w K mg) (hF : ∃ fd, FunD K "_law_begin" "_law_begin" (defArgs s_law_begin) (defBody s_law_begin) (defScope s_law_begin) [] [] (He.fAd K ("_law_begin", none)) fd) (h_law_driver : Okd P w K mg base 7 (He.fAd K ("_law_driver", none)) ["_law_memory", "_law_request"] (spA K a_law_driver)) (h_table_word : Okd P w K mg base 1 (He.fAd K ("table_word", none)) ["device", "page"] (spA K a_table_word)) : Okd P w K mg base 8 (He.fAd K ("_law_begin", none)) ["_law_memory"] (spA K a_law_begin) := by
  obtain ⟨fd_law_driver, G_law_driver, b_law_driver, kp_law_driver, _⟩ := h_law_driver
  obtain ⟨fd_table_word, G_table_word, b_table_word, kp_table_word, _⟩ := h_table_word
  refine okA hF sc_law_begin rfl rfl (fun _ _ _ _ _ _ us hl => match us, hl with | [_], _ => rfl) (fun cdv A outer s H E hr => ?_)
  have nd := sc_law_begin.nd
  exact (y_cons (y_drop (d_call G_law_driver (hr.mono (by decide)) rfl T.g__law_driver kp_law_driver b_law_driver (fun σ => passAt (takes_of rfl rfl rfl rfl) σ) (d_cons (d_var (pv 0)) (d_cons (d_tup (d_cons (d_str "write" pe_str so_1) (d_cons (d_call G_table_word (hr.mono (by decide)) rfl T.g_table_word kp_table_word b_table_word (fun σ => passAt (takes_of rfl rfl rfl rfl) σ) (d_cons (d_int pe_int) (d_cons (d_int pe_int) d_nil))) (d_cons (d_tup (d_cons (d_int pe_int) (d_cons (d_str "r" pe_str so_7) d_nil))) d_nil)))) d_nil))))
  (y_one (y_drop (d_call G_law_driver (hr.mono (by decide)) rfl T.g__law_driver kp_law_driver b_law_driver (fun σ => passAt (takes_of rfl rfl rfl rfl) σ) (d_cons (d_var (pv 0)) (d_cons (d_tup (d_cons (d_str "write" pe_str so_1) (d_cons (d_call G_table_word (hr.mono (by decide)) rfl T.g_table_word kp_table_word b_table_word (fun σ => passAt (takes_of rfl rfl rfl rfl) σ) (d_cons (d_int pe_int) (d_cons (d_int pe_int) d_nil))) (d_cons (d_tup (d_cons (d_int pe_int) (d_cons (d_str "w" pe_str so_8) d_nil))) d_nil)))) d_nil))))))
theorem sc_law_next : FnScope N_law_next ["_law_tape", "_law_many"] (defScope s_law_next) := ⟨rfl, rfl, rfl, by decide +kernel, rfl, by decide +kernel, by decide +kernel⟩
theorem ok_law_next (T : Tx P w K mg) (hF : ∃ fd, FunD K "_law_next" "_law_next" (defArgs s_law_next) (defBody s_law_next) (defScope s_law_next) [] [] (He.fAd K ("_law_next", none)) fd)  : Okd P w K mg base 1 (He.fAd K ("_law_next", none)) ["_law_tape", "_law_many"] (spA K a_law_next) := by
  refine okA hF sc_law_next rfl rfl (fun _ _ _ _ _ _ us hl => match us, hl with | [_, _], _ => rfl) (fun cdv A outer s H E hr => ?_)
  have nd := sc_law_next.nd
  exact (y_cons (y_set (ps_set (i := 2) nd rfl (Or.inl rfl) (d_ix (d_var (pv 0)) (d_int pe_int) (fun _ _ => rfl))))
  (y_cons (y_if (d_tcmp op_gtI k_gt (d_var (pv 2)) (d_int pe_int) (nomark _)) (y_cons (y_asg (d_op op_divN k_div (d_var (pv 2)) (d_var (pv 1))) (g_sub (d_var (pv 0)) (d_int pe_int)))
  (y_one (y_ret (d_op op_modI k_mod (d_callTy cr_int k_int (by rfl) T.b_int (by decide +kernel) (d_cons (d_var (pv 2)) d_nil)) (d_var (pv 1)))))) y_nil)
  (y_cons (y_set (ps_set (i := 3) nd rfl (Or.inl rfl) (d_int pe_int)))
  (y_cons (y_if (d_tcmp op_ltI k_lt (d_ix (d_var (pv 0)) (d_int pe_int) (fun _ _ => rfl)) (d_callB cr_lenM k_len (by rfl) T.b_len (by decide +kernel) (d_cons (d_ix (d_var (pv 0)) (d_int pe_int) (fun _ _ => rfl)) d_nil)) (nomark _)) (y_cons (y_set (ps_set (i := 3) nd rfl (Or.inl rfl) (d_callB cr_abs k_abs (by rfl) T.b_abs (by decide +kernel) (d_cons (d_ix (d_ix (d_var (pv 0)) (d_int pe_int) (fun _ _ => rfl)) (d_ix (d_var (pv 0)) (d_int pe_int) (fun _ _ => rfl)) (fun _ _ => rfl)) d_nil))))
  (y_one (y_augS (d_var (pv 0)) (d_int pe_int) (d_int pe_int)))) y_nil)
  (y_cons (y_if (d_tcmp op_geI k_ge (d_var (pv 3)) (d_op op_powI k_pow (d_int pe_int) (d_int pe_int)) (nomark _)) (y_cons (y_asg (d_op op_divN k_div (d_var (pv 3)) (d_var (pv 1))) (g_sub (d_var (pv 0)) (d_int pe_int)))
  (y_one (y_ret (d_op op_modI k_mod (d_callTy cr_int k_int (by rfl) T.b_int (by decide +kernel) (d_cons (d_var (pv 3)) d_nil)) (d_var (pv 1)))))) y_nil)
  (y_cons (y_asg (d_op op_modI k_mod (d_callTy cr_int k_int (by rfl) T.b_int (by decide +kernel) (d_cons (d_op op_addA k_add (d_op op_addA k_add (d_op op_mulA k_mul (d_ix (d_var (pv 0)) (d_int pe_int) (fun _ _ => rfl)) (d_int pe_int)) (d_op op_mulA k_mul (d_var (pv 3)) (d_int pe_int))) (d_int pe_int)) d_nil)) (d_int pe_int)) (g_sub (d_var (pv 0)) (d_int pe_int)))
  (y_one (y_ret (d_op op_modI k_mod (d_callTy cr_int k_int (by rfl) T.b_int (by decide +kernel) (d_cons (d_op op_divN k_div (d_op op_modI k_mod (d_op op_mulA k_mul (d_ix (d_var (pv 0)) (d_int pe_int) (fun _ _ => rfl)) (d_int pe_int)) (d_int pe_int)) (d_int pe_int)) d_nil)) (d_var (pv 1)))))))))))
theorem sc_law_describe : FnScope N_law_describe ["_law_tape", "_law_memory", "_law_number"] (defScope s_law_describe) := ⟨rfl, rfl, rfl, by decide +kernel, rfl, by decide +kernel, by decide +kernel⟩
theorem ok_law_describe (T : Tx P w K mg) (hF : ∃ fd, FunD K "_law_describe" "_law_describe" (defArgs s_law_describe) (defBody s_law_describe) (defScope s_law_describe) [] [] (He.fAd K ("_law_describe", none)) fd) (h_law_next : Okd P w K mg base 1 (He.fAd K ("_law_next", none)) ["_law_tape", "_law_many"] (spA K a_law_next)) (h_law_driver : Okd P w K mg base 7 (He.fAd K ("_law_driver", none)) ["_law_memory", "_law_request"] (spA K a_law_driver)) (h_frame_cell : Okd P w K mg base 1 (He.fAd K ("frame_cell", none)) ["device", "frame", "index"] (spA K a_frame_cell)) (h_table_word : Okd P w K mg base 1 (He.fAd K ("table_word", none)) ["device", "page"] (spA K a_table_word)) (h_Memory_access : Okd P w K mg base 6 (He.fAd K ("Memory", some "access")) ["self", "actor", "request"] (spA K a_Memory_access)) : Okd P w K mg base 8 (He.fAd K ("_law_describe", none)) ["_law_tape", "_law_memory", "_law_number"] (spA K a_law_describe) := by
  obtain ⟨fd_law_next, G_law_next, b_law_next, kp_law_next, _⟩ := h_law_next
  obtain ⟨fd_law_driver, G_law_driver, b_law_driver, kp_law_driver, _⟩ := h_law_driver
  obtain ⟨fd_frame_cell, G_frame_cell, b_frame_cell, kp_frame_cell, _⟩ := h_frame_cell
  obtain ⟨fd_table_word, G_table_word, b_table_word, kp_table_word, _⟩ := h_table_word
  obtain ⟨fd_Memory_access, G_Memory_access, b_Memory_access, kp_Memory_access, _⟩ := h_Memory_access
  refine okA hF sc_law_describe rfl rfl (fun _ _ _ _ _ _ us hl => match us, hl with | [_, _, _], _ => rfl) (fun cdv A outer s H E hr => ?_)
  have nd := sc_law_describe.nd
  exact (y_cons (y_set (ps_set (i := 3) nd rfl (Or.inl rfl) (d_op op_modI k_mod (d_var (pv 2)) (d_int pe_int))))
  (y_cons (y_set (ps_set (i := 4) nd rfl (Or.inl rfl) (d_ix (d_tup (d_cons (d_str "read" pe_str so_10) (d_cons (d_str "write" pe_str so_1) d_nil))) (d_call G_law_next (hr.mono (by decide)) rfl T.g__law_next kp_law_next b_law_next (fun σ => passAt (takes_of rfl rfl rfl rfl) σ) (d_cons (d_var (pv 0)) (d_cons (d_int pe_int) d_nil))) (fun _ _ => rfl))))
  (y_cons (y_set (ps_set (i := 5) nd rfl (Or.inl rfl) (d_ix (d_tup (d_cons (d_str "w" pe_str so_8) (d_cons (d_str "r" pe_str so_7) d_nil))) (d_callTy cr_int k_int (by rfl) T.b_int (by decide +kernel) (d_cons (d_cmp (op_eqM (hu65 hr)) k_eq (d_var (pv 4)) (d_str "write" pe_str so_1) (nomark _)) d_nil)) (fun _ _ => rfl))))
  (y_cons (y_for (passes_of rfl) rfl (i_r1 (pi_range1 rfl T.b_range (d_cons (d_int pe_int) d_nil))) (g_name (pg_name (i := 6) nd rfl (Or.inl rfl))) (y_one (y_drop (d_call G_law_driver (hr.mono (by decide)) rfl T.g__law_driver kp_law_driver b_law_driver (fun σ => passAt (takes_of rfl rfl rfl rfl) σ) (d_cons (d_var (pv 1)) (d_cons (d_tup (d_cons (d_str "write" pe_str so_1) (d_cons (d_call G_frame_cell (hr.mono (by decide)) rfl T.g_frame_cell kp_frame_cell b_frame_cell (fun σ => passAt (takes_of rfl rfl rfl rfl) σ) (d_cons (d_int pe_int) (d_cons (d_op op_addA k_add (d_int pe_int) (d_var (pv 3))) (d_cons (d_var (pv 6)) d_nil)))) (d_cons (d_op op_subN k_sub (d_call G_law_next (hr.mono (by decide)) rfl T.g__law_next kp_law_next b_law_next (fun σ => passAt (takes_of rfl rfl rfl rfl) σ) (d_cons (d_var (pv 0)) (d_cons (d_int pe_int) d_nil))) (d_int pe_int)) d_nil)))) d_nil))))))
  (y_cons (y_drop (d_call G_law_driver (hr.mono (by decide)) rfl T.g__law_driver kp_law_driver b_law_driver (fun σ => passAt (takes_of rfl rfl rfl rfl) σ) (d_cons (d_var (pv 1)) (d_cons (d_tup (d_cons (d_str "write" pe_str so_1) (d_cons (d_call G_table_word (hr.mono (by decide)) rfl T.g_table_word kp_table_word b_table_word (fun σ => passAt (takes_of rfl rfl rfl rfl) σ) (d_cons (d_int pe_int) (d_cons (d_op op_addA k_add (d_int pe_int) (d_var (pv 3))) d_nil))) (d_cons (d_tup (d_cons (d_op op_addA k_add (d_int pe_int) (d_var (pv 3))) (d_cons (d_var (pv 5)) d_nil))) d_nil)))) d_nil))))
  (y_cons (y_drop (d_call G_law_driver (hr.mono (by decide)) rfl T.g__law_driver kp_law_driver b_law_driver (fun σ => passAt (takes_of rfl rfl rfl rfl) σ) (d_cons (d_var (pv 1)) (d_cons (d_tup (d_cons (d_str "command" pe_str so_13) (d_cons (d_op op_addA k_add (d_int pe_int) (d_var (pv 3))) d_nil))) d_nil))))
  (y_cons (y_drop (d_meth (d_var (pv 1)) T.cl_Memory T.m_Memory__access G_Memory_access (hr.mono (by decide)) b_Memory_access (fun σ => passAt (takes_of rfl rfl rfl rfl) σ) (d_cons (d_tup (d_cons (d_str "guard" pe_str so_19) (d_cons (d_int pe_int) d_nil))) (d_cons (d_tup (d_cons (d_str "drop" pe_str so_17) d_nil)) d_nil))))
  (y_cons (y_set (ps_set (i := 7) nd rfl (Or.inl rfl) (d_tup (d_cons (d_var (pv 3)) (d_cons (d_var (pv 4)) (d_cons (d_call G_law_next (hr.mono (by decide)) rfl T.g__law_next kp_law_next b_law_next (fun σ => passAt (takes_of rfl rfl rfl rfl) σ) (d_cons (d_var (pv 0)) (d_cons (d_int pe_int) d_nil))) (d_cons (d_op op_subN k_sub (d_int pe_int) (d_op op_modI k_mod (d_op op_divN k_div (d_var (pv 2)) (d_int pe_int)) (d_int pe_int))) (d_cons (d_var (pv 2)) d_nil))))))))
  (y_one (y_drop (d_call G_law_driver (hr.mono (by decide)) rfl T.g__law_driver kp_law_driver b_law_driver (fun σ => passAt (takes_of rfl rfl rfl rfl) σ) (d_cons (d_var (pv 1)) (d_cons (d_tup (d_cons (d_str "write" pe_str so_1) (d_cons (d_call G_frame_cell (hr.mono (by decide)) rfl T.g_frame_cell kp_frame_cell b_frame_cell (fun σ => passAt (takes_of rfl rfl rfl rfl) σ) (d_cons (d_int pe_int) (d_cons (d_int pe_int) (d_cons (d_op op_modI k_mod (d_var (pv 2)) (d_int pe_int)) d_nil)))) (d_cons (d_var (pv 7)) d_nil)))) d_nil)))))))))))))
theorem sc_reset : FnScope N_reset ["device"] (defScope s_reset) := ⟨rfl, rfl, rfl, by decide +kernel, rfl, by decide +kernel, by decide +kernel⟩
theorem ok_reset (T : Tx P w K mg) (hF : ∃ fd, FunD K "reset" "reset" (defArgs s_reset) (defBody s_reset) (defScope s_reset) [] [] (He.fAd K ("reset", none)) fd) (h_doorbell : Okd P w K mg base 1 (He.fAd K ("doorbell", none)) ["device"] (spA K a_doorbell)) : Okd P w K mg base 2 (He.fAd K ("reset", none)) ["device"] (spA K a_reset) := by
  obtain ⟨fd_doorbell, G_doorbell, b_doorbell, kp_doorbell, _⟩ := h_doorbell
  refine okA hF sc_reset rfl rfl (fun _ _ _ _ _ _ us hl => match us, hl with | [_], _ => rfl) (fun cdv A outer s H E hr => ?_)
  have nd := sc_reset.nd
  exact (y_one (y_ret (d_op op_addA k_add (d_call G_doorbell (hr.mono (by decide)) rfl T.g_doorbell kp_doorbell b_doorbell (fun σ => passAt (takes_of rfl rfl rfl rfl) σ) (d_cons (d_var (pv 0)) d_nil)) (d_int pe_int))))
theorem sc_law_wish : FnScope N_law_wish ["_law_own", "_law_choice"] (defScope s_law_wish) := ⟨rfl, rfl, rfl, by decide +kernel, rfl, by decide +kernel, by decide +kernel⟩
theorem ok_law_wish (T : Tx P w K mg) (hF : ∃ fd, FunD K "_law_wish" "_law_wish" (defArgs s_law_wish) (defBody s_law_wish) (defScope s_law_wish) [] [] (He.fAd K ("_law_wish", none)) fd) (h_reset : Okd P w K mg base 2 (He.fAd K ("reset", none)) ["device"] (spA K a_reset)) : Okd P w K mg base 3 (He.fAd K ("_law_wish", none)) ["_law_own", "_law_choice"] (spA K a_law_wish) := by
  obtain ⟨fd_reset, G_reset, b_reset, kp_reset, _⟩ := h_reset
  refine okA hF sc_law_wish rfl rfl (fun _ _ _ _ _ _ us hl => match us, hl with | [_, _], _ => rfl) (fun cdv A outer s H E hr => ?_)
  have nd := sc_law_wish.nd
  exact (y_cons (y_if (d_tcmp (op_neE (hu65 hr)) k_neE (d_dget (hu_of hr) (d_var (pv 0)) (d_str "pending" pe_str so_20) (fun _ _ => rfl)) (d_lst d_nil) (nomark _)) (y_one (y_ret (d_ix (d_dget (hu_of hr) (d_var (pv 0)) (d_str "pending" pe_str so_20) (fun _ _ => rfl)) (d_int pe_int) (fun _ _ => rfl)))) y_nil)
  (y_cons (y_set (ps_set (i := 2) nd rfl (Or.inl rfl) (d_dget (hu_of hr) (d_var (pv 0)) (d_str "jobs" pe_str so_4) (fun _ _ => rfl))))
  (y_cons (y_if (d_tcmp (op_eqM (hu65 hr)) k_eq (d_op op_modI k_mod (d_var (pv 1)) (d_int pe_int)) (d_int pe_int) (nomark _)) (y_one (y_ret (d_tup (d_cons (d_str "read" pe_str so_10) (d_cons (d_call G_reset (hr.mono (by decide)) rfl T.g_reset kp_reset b_reset (fun σ => passAt (takes_of rfl rfl rfl rfl) σ) (d_cons (d_int pe_int) d_nil)) d_nil))))) y_nil)
  (y_cons (y_if (PW.pt (d_or (d_tcmp (op_eqE (hu65 hr)) k_eqE (d_var (pv 2)) (d_lst d_nil) (nomark _)) (d_or1 (PW.pt (d_and (d_tcmp (op_eqM (hu65 hr)) k_eq (d_op op_modI k_mod (d_var (pv 1)) (d_int pe_int)) (d_int pe_int) (nomark _)) (d_and1 (d_tcmp op_ltI k_lt (d_callB cr_lenM k_len (by rfl) T.b_len (by decide +kernel) (d_cons (d_var (pv 2)) d_nil)) (d_int pe_int) (nomark _)))))))) (y_one (y_ret (d_tup (d_cons (d_str "dma read" pe_str so_11) (d_cons (d_int pe_int) (d_cons (d_op op_modI k_mod (d_dget (hu_of hr) (d_var (pv 0)) (d_str "taken" pe_str so_6) (fun _ _ => rfl)) (d_int pe_int)) d_nil)))))) y_nil)
  (y_cons (y_set (ps_set (i := 3) nd rfl (Or.inl rfl) (d_ix (d_var (pv 2)) (d_op op_modI k_mod (d_op op_divN k_div (d_var (pv 1)) (d_int pe_int)) (d_callB cr_lenM k_len (by rfl) T.b_len (by decide +kernel) (d_cons (d_var (pv 2)) d_nil))) (fun _ _ => rfl))))
  (y_cons (y_asg (d_dget (hu_of hr) (d_var (pv 3)) (d_str "entry" pe_str so_5) (fun _ _ => rfl)) (g_tup rfl (g_cons (g_name (pg_name (i := 4) nd rfl (Or.inl rfl))) (g_cons (g_name (pg_name (i := 5) nd rfl (Or.inl rfl))) (g_cons (g_name (pg_name (i := 6) nd rfl (Or.inl rfl))) (g_cons (g_name (pg_name (i := 7) nd rfl (Or.inl rfl))) (g_cons (g_name (pg_name (i := 8) nd rfl (Or.inl rfl))) g_nil)))))))
  (y_cons (y_if (d_not (d_tru (d_dget (hu_of hr) (d_var (pv 3)) (d_str "decided" pe_str so_21) (fun _ _ => rfl)))) (y_cons (y_if (PW.pt (d_and (d_tcmp (op_eqM (hu65 hr)) k_eq (d_var (pv 5)) (d_str "write" pe_str so_1) (nomark _)) (d_and1 (d_tcmp op_ltI k_lt (d_dget (hu_of hr) (d_var (pv 3)) (d_str "moved" pe_str so_22) (fun _ _ => rfl)) (d_int pe_int) (nomark _))))) (y_one (y_ret (d_tup (d_cons (d_str "dma read" pe_str so_11) (d_cons (d_op op_addA k_add (d_int pe_int) (d_var (pv 4))) (d_cons (d_dget (hu_of hr) (d_var (pv 3)) (d_str "moved" pe_str so_22) (fun _ _ => rfl)) d_nil)))))) y_nil)
  (y_cons (y_if (d_tcmp (op_eqM (hu65 hr)) k_eq (d_var (pv 5)) (d_str "write" pe_str so_1) (nomark _)) (y_one (y_ret (d_tup (d_cons (d_str "commit" pe_str so_15) (d_cons (d_var (pv 6)) (d_cons (d_callTy cr_tup k_tuple (by rfl) T.b_tuple (by decide +kernel) (d_cons (d_dget (hu_of hr) (d_var (pv 3)) (d_str "cells" pe_str so_23) (fun _ _ => rfl)) d_nil)) (d_cons (d_dget (hu_of hr) (d_var (pv 0)) (d_str "generation" pe_str so_2) (fun _ _ => rfl)) (d_cons (d_var (pv 8)) d_nil)))))))) y_nil)
  (y_one (y_ret (d_tup (d_cons (d_str "fetch" pe_str so_14) (d_cons (d_var (pv 6)) (d_cons (d_dget (hu_of hr) (d_var (pv 0)) (d_str "generation" pe_str so_2) (fun _ _ => rfl)) (d_cons (d_var (pv 8)) d_nil))))))))) y_nil)
  (y_cons (y_if (PW.pt (d_and (d_tcmp (op_eqM (hu65 hr)) k_eq (d_var (pv 5)) (d_str "read" pe_str so_10) (nomark _)) (d_and1 (d_tcmp op_ltI k_lt (d_dget (hu_of hr) (d_var (pv 3)) (d_str "moved" pe_str so_22) (fun _ _ => rfl)) (d_int pe_int) (nomark _))))) (y_one (y_ret (d_tup (d_cons (d_str "dma write" pe_str so_12) (d_cons (d_op op_addA k_add (d_int pe_int) (d_var (pv 4))) (d_cons (d_dget (hu_of hr) (d_var (pv 3)) (d_str "moved" pe_str so_22) (fun _ _ => rfl)) (d_cons (d_ix (d_dget (hu_of hr) (d_var (pv 3)) (d_str "cells" pe_str so_23) (fun _ _ => rfl)) (d_dget (hu_of hr) (d_var (pv 3)) (d_str "moved" pe_str so_22) (fun _ _ => rfl)) (fun _ _ => rfl)) d_nil))))))) y_nil)
  (y_one (y_ret (d_tup (d_cons (d_str "dma write" pe_str so_12) (d_cons (d_int pe_int) (d_cons (d_op op_modI k_mod (d_dget (hu_of hr) (d_var (pv 0)) (d_str "done" pe_str so_0) (fun _ _ => rfl)) (d_int pe_int)) (d_cons (d_tup (d_cons (d_var (pv 4)) (d_cons (d_str "done" pe_str so_0) (d_cons (d_op op_subN k_sub (d_int pe_int) (d_op op_modI k_mod (d_op op_divN k_div (d_dget (hu_of hr) (d_var (pv 0)) (d_str "done" pe_str so_0) (fun _ _ => rfl)) (d_int pe_int)) (d_int pe_int))) d_nil)))) d_nil)))))))))))))))
theorem sc_Device_access : FnScope N_Device_access ["self", "request"] (defScope s_Device_access) := ⟨rfl, rfl, rfl, by decide +kernel, rfl, by decide +kernel, by decide +kernel⟩
theorem ok_Device_access (T : Tx P w K mg) (hF : ∃ fd, FunD K "access" "Device.access" (defArgs s_Device_access) (defBody s_Device_access) (defScope s_Device_access) [] [] (He.fAd K ("Device", some "access")) fd) (h_Memory_access : Okd P w K mg base 6 (He.fAd K ("Memory", some "access")) ["self", "actor", "request"] (spA K a_Memory_access)) : Okd P w K mg base 7 (He.fAd K ("Device", some "access")) ["self", "request"] (spA K a_Device_access) := by
  obtain ⟨fd_Memory_access, G_Memory_access, b_Memory_access, kp_Memory_access, _⟩ := h_Memory_access
  refine okA hF sc_Device_access rfl rfl (fun _ _ _ _ _ _ us hl => match us, hl with | [_, _], _ => rfl) (fun cdv A outer s H E hr => ?_)
  have nd := sc_Device_access.nd
  exact (y_one (y_ret (d_ix (d_meth (d_fld "memory" (d_var (pv 0)) rfl) T.cl_Memory T.m_Memory__access G_Memory_access (hr.mono (by decide)) b_Memory_access (fun σ => passAt (takes_of rfl rfl rfl rfl) σ) (d_cons (d_tup (d_cons (d_str "device" pe_str so_3) (d_cons (d_fld "device" (d_var (pv 0)) rfl) d_nil))) (d_cons (d_var (pv 1)) d_nil))) (d_int pe_int) (fun _ _ => rfl))))
theorem sc_ready : FnScope N_ready ["device"] (defScope s_ready) := ⟨rfl, rfl, rfl, by decide +kernel, rfl, by decide +kernel, by decide +kernel⟩
theorem ok_ready (T : Tx P w K mg) (hF : ∃ fd, FunD K "ready" "ready" (defArgs s_ready) (defBody s_ready) (defScope s_ready) [] [] (He.fAd K ("ready", none)) fd) (h_doorbell : Okd P w K mg base 1 (He.fAd K ("doorbell", none)) ["device"] (spA K a_doorbell)) : Okd P w K mg base 2 (He.fAd K ("ready", none)) ["device"] (spA K a_ready) := by
  obtain ⟨fd_doorbell, G_doorbell, b_doorbell, kp_doorbell, _⟩ := h_doorbell
  refine okA hF sc_ready rfl rfl (fun _ _ _ _ _ _ us hl => match us, hl with | [_], _ => rfl) (fun cdv A outer s H E hr => ?_)
  have nd := sc_ready.nd
  exact (y_one (y_ret (d_op op_addA k_add (d_call G_doorbell (hr.mono (by decide)) rfl T.g_doorbell kp_doorbell b_doorbell (fun σ => passAt (takes_of rfl rfl rfl rfl) σ) (d_cons (d_var (pv 0)) d_nil)) (d_int pe_int))))
theorem sc_Device_look_for_reset : FnScope N_Device_look_for_reset ["self"] (defScope s_Device_look_for_reset) := ⟨rfl, rfl, rfl, by decide +kernel, rfl, by decide +kernel, by decide +kernel⟩
theorem ok_Device_look_for_reset (T : Tx P w K mg) (hF : ∃ fd, FunD K "look_for_reset" "Device.look_for_reset" (defArgs s_Device_look_for_reset) (defBody s_Device_look_for_reset) (defScope s_Device_look_for_reset) [] [] (He.fAd K ("Device", some "look_for_reset")) fd) (h_Device_access : Okd P w K mg base 7 (He.fAd K ("Device", some "access")) ["self", "request"] (spA K a_Device_access)) (h_reset : Okd P w K mg base 2 (He.fAd K ("reset", none)) ["device"] (spA K a_reset)) (h_ready : Okd P w K mg base 2 (He.fAd K ("ready", none)) ["device"] (spA K a_ready)) : Okd P w K mg base 8 (He.fAd K ("Device", some "look_for_reset")) ["self"] (spA K a_Device_look_for_reset) := by
  obtain ⟨fd_Device_access, G_Device_access, b_Device_access, kp_Device_access, _⟩ := h_Device_access
  obtain ⟨fd_reset, G_reset, b_reset, kp_reset, _⟩ := h_reset
  obtain ⟨fd_ready, G_ready, b_ready, kp_ready, _⟩ := h_ready
  refine okA hF sc_Device_look_for_reset rfl rfl (fun _ _ _ _ _ _ us hl => match us, hl with | [_], _ => rfl) (fun cdv A outer s H E hr => ?_)
  have nd := sc_Device_look_for_reset.nd
  exact (y_cons (y_set (ps_set (i := 1) nd rfl (Or.inl rfl) (d_meth (d_var (pv 0)) T.cl_Device T.m_Device__access G_Device_access (hr.mono (by decide)) b_Device_access (fun σ => passAt (takes_of rfl rfl rfl rfl) σ) (d_cons (d_tup (d_cons (d_str "read" pe_str so_10) (d_cons (d_call G_reset (hr.mono (by decide)) rfl T.g_reset kp_reset b_reset (fun σ => passAt (takes_of rfl rfl rfl rfl) σ) (d_cons (d_fld "device" (d_var (pv 0)) rfl) d_nil)) d_nil))) d_nil))))
  (y_one (y_if (d_tcmp (op_neM (hu65 hr)) k_ne (d_var (pv 1)) (d_fld "generation" (d_var (pv 0)) rfl) (nomark _)) (y_cons (y_sf "generation" (d_var (pv 0)) (d_var (pv 1)) rfl)
  (y_cons (y_sf "taken" (d_var (pv 0)) (d_int pe_int) rfl)
  (y_cons (y_sf "completed" (d_var (pv 0)) (d_int pe_int) rfl)
  (y_cons (y_sf "under_way" (d_var (pv 0)) (d_lst d_nil) rfl)
  (y_one (y_sf "pending" (d_var (pv 0)) (d_lst (d_cons (d_tup (d_cons (d_str "write" pe_str so_1) (d_cons (d_call G_ready (hr.mono (by decide)) rfl T.g_ready kp_ready b_ready (fun σ => passAt (takes_of rfl rfl rfl rfl) σ) (d_cons (d_fld "device" (d_var (pv 0)) rfl) d_nil)) (d_cons (d_var (pv 1)) d_nil)))) d_nil)) rfl)))))) y_nil)))
theorem sc_buffer_page : FnScope N_buffer_page ["tag"] (defScope s_buffer_page) := ⟨rfl, rfl, rfl, by decide +kernel, rfl, by decide +kernel, by decide +kernel⟩
theorem ok_buffer_page (T : Tx P w K mg) (hF : ∃ fd, FunD K "buffer_page" "buffer_page" (defArgs s_buffer_page) (defBody s_buffer_page) (defScope s_buffer_page) [] [] (He.fAd K ("buffer_page", none)) fd)  : Okd P w K mg base 1 (He.fAd K ("buffer_page", none)) ["tag"] (spA K a_buffer_page) := by
  refine okA hF sc_buffer_page rfl rfl (fun _ _ _ _ _ _ us hl => match us, hl with | [_], _ => rfl) (fun cdv A outer s H E hr => ?_)
  have nd := sc_buffer_page.nd
  exact (y_one (y_ret (d_op op_addA k_add (d_int (pe_gint rfl T.c_FIRST_BUFFER)) (d_var (pv 0)))))
theorem sc_Device_drop : FnScope N_Device_drop ["self", "job"] (defScope s_Device_drop) := ⟨rfl, rfl, rfl, by decide +kernel, rfl, by decide +kernel, by decide +kernel⟩
theorem ok_Device_drop (T : Tx P w K mg) (hF : ∃ fd, FunD K "drop" "Device.drop" (defArgs s_Device_drop) (defBody s_Device_drop) (defScope s_Device_drop) [] [] (He.fAd K ("Device", some "drop")) fd)  : Okd P w K mg base 1 (He.fAd K ("Device", some "drop")) ["self", "job"] (spA K a_Device_drop) := by
  refine okA hF sc_Device_drop rfl rfl (fun _ _ _ _ _ _ us hl => match us, hl with | [_, _], _ => rfl) (fun cdv A outer s H E hr => ?_)
  have nd := sc_Device_drop.nd
  exact (y_one (y_sf "under_way" (d_var (pv 0)) (d_lc (pe_lc (own := [("other", 2)]) (g := gName 2) (tt := rdT K W0 (xT (xOp aNe (xFld (xVar 2) "sequence") (xFld (xVar 1) "sequence")))) (te := rdE K W0 (xVar 2)) rfl nd (i_l (d_fld "under_way" (d_var (pv 0)) rfl)) (blkOk_by (own := [("other", 2)]) (N := N_Device_drop) (sc := defScope s_Device_drop) (by decide +kernel)) (fun _ _ _ _ _ => pg_name (i := 2) nd rfl (Or.inl rfl)) (fun _ _ _ _ _ => (pts_one (d_tcmp (op_neM (hu65 hr)) k_ne (d_fld "sequence" (d_var (pv 2)) rfl) (d_fld "sequence" (d_var (pv 1)) rfl) (nomark _)))) (fun _ _ _ _ _ => (d_var (pv 2)))) (tg_name 2)) rfl))
theorem sc_Device_read_cell : FnScope N_Device_read_cell ["self", "job"] (defScope s_Device_read_cell) := ⟨rfl, rfl, rfl, by decide +kernel, rfl, by decide +kernel, by decide +kernel⟩
theorem ok_Device_read_cell (T : Tx P w K mg) (hF : ∃ fd, FunD K "read_cell" "Device.read_cell" (defArgs s_Device_read_cell) (defBody s_Device_read_cell) (defScope s_Device_read_cell) [] [] (He.fAd K ("Device", some "read_cell")) fd) (h_Device_access : Okd P w K mg base 7 (He.fAd K ("Device", some "access")) ["self", "request"] (spA K a_Device_access)) (h_buffer_page : Okd P w K mg base 1 (He.fAd K ("buffer_page", none)) ["tag"] (spA K a_buffer_page)) (h_Device_drop : Okd P w K mg base 1 (He.fAd K ("Device", some "drop")) ["self", "job"] (spA K a_Device_drop)) : Okd P w K mg base 8 (He.fAd K ("Device", some "read_cell")) ["self", "job"] (spA K a_Device_read_cell) := by
  obtain ⟨fd_Device_access, G_Device_access, b_Device_access, kp_Device_access, _⟩ := h_Device_access
  obtain ⟨fd_buffer_page, G_buffer_page, b_buffer_page, kp_buffer_page, _⟩ := h_buffer_page
  obtain ⟨fd_Device_drop, G_Device_drop, b_Device_drop, kp_Device_drop, _⟩ := h_Device_drop
  refine okA hF sc_Device_read_cell rfl rfl (fun _ _ _ _ _ _ us hl => match us, hl with | [_, _], _ => rfl) (fun cdv A outer s H E hr => ?_)
  have nd := sc_Device_read_cell.nd
  exact (y_cons (y_set (ps_set (i := 2) nd rfl (Or.inl rfl) (d_meth (d_var (pv 0)) T.cl_Device T.m_Device__access G_Device_access (hr.mono (by decide)) b_Device_access (fun σ => passAt (takes_of rfl rfl rfl rfl) σ) (d_cons (d_tup (d_cons (d_str "dma read" pe_str so_11) (d_cons (d_call G_buffer_page (hr.mono (by decide)) rfl T.g_buffer_page kp_buffer_page b_buffer_page (fun σ => passAt (takes_of rfl rfl rfl rfl) σ) (d_cons (d_fld "tag" (d_var (pv 1)) rfl) d_nil)) (d_cons (d_fld "moved" (d_var (pv 1)) rfl) d_nil)))) d_nil))))
  (y_cons (y_if (d_tcmp op_isN1 k_isN (d_var (pv 2)) (d_non pe_non) (nomark _)) (y_cons (y_drop (d_meth (d_var (pv 0)) T.cl_Device T.m_Device__drop G_Device_drop (hr.mono (by decide)) b_Device_drop (fun σ => passAt (takes_of rfl rfl rfl rfl) σ) (d_cons (d_var (pv 1)) d_nil)))
  (y_one y_retN)) y_nil)
  (y_cons (y_drop (d_app (d_fld "content" (d_var (pv 1)) rfl) (d_cons (d_ix (d_var (pv 2)) (d_int pe_int) (fun _ _ => rfl)) d_nil)))
  (y_one (y_fa "moved" (d_var (pv 1)) (d_int pe_int))))))
theorem sc_Device_decide : FnScope N_Device_decide ["self", "job"] (defScope s_Device_decide) := ⟨rfl, rfl, rfl, by decide +kernel, rfl, by decide +kernel, by decide +kernel⟩
theorem ok_Device_decide (T : Tx P w K mg) (hF : ∃ fd, FunD K "decide" "Device.decide" (defArgs s_Device_decide) (defBody s_Device_decide) (defScope s_Device_decide) [] [] (He.fAd K ("Device", some "decide")) fd) (h_Device_access : Okd P w K mg base 7 (He.fAd K ("Device", some "access")) ["self", "request"] (spA K a_Device_access)) : Okd P w K mg base 8 (He.fAd K ("Device", some "decide")) ["self", "job"] (spA K a_Device_decide) := by
  obtain ⟨fd_Device_access, G_Device_access, b_Device_access, kp_Device_access, _⟩ := h_Device_access
  refine okA hF sc_Device_decide rfl rfl (fun _ _ _ _ _ _ us hl => match us, hl with | [_, _], _ => rfl) (fun cdv A outer s H E hr => ?_)
  have nd := sc_Device_decide.nd
  exact (y_cons (y_sf "is_decided" (d_var (pv 1)) (d_bl pe_bl) rfl)
  (y_one (y_if (d_tcmp (op_eqM (hu65 hr)) k_eq (d_fld "kind" (d_var (pv 1)) rfl) (d_str "write" pe_str so_1) (nomark _)) (y_one (y_drop (d_meth (d_var (pv 0)) T.cl_Device T.m_Device__access G_Device_access (hr.mono (by decide)) b_Device_access (fun σ => passAt (takes_of rfl rfl rfl rfl) σ) (d_cons (d_tup (d_cons (d_str "commit" pe_str so_15) (d_cons (d_fld "block" (d_var (pv 1)) rfl) (d_cons (d_callTy cr_tup k_tuple (by rfl) T.b_tuple (by decide +kernel) (d_cons (d_fld "content" (d_var (pv 1)) rfl) d_nil)) (d_cons (d_fld "generation" (d_var (pv 0)) rfl) (d_cons (d_fld "sequence" (d_var (pv 1)) rfl) d_nil)))))) d_nil)))) (y_one (y_sf "content" (d_var (pv 1)) (d_callTy cr_list k_list (by rfl) T.b_list (by decide +kernel) (d_cons (d_meth (d_var (pv 0)) T.cl_Device T.m_Device__access G_Device_access (hr.mono (by decide)) b_Device_access (fun σ => passAt (takes_of rfl rfl rfl rfl) σ) (d_cons (d_tup (d_cons (d_str "fetch" pe_str so_14) (d_cons (d_fld "block" (d_var (pv 1)) rfl) (d_cons (d_fld "generation" (d_var (pv 0)) rfl) (d_cons (d_fld "sequence" (d_var (pv 1)) rfl) d_nil))))) d_nil)) d_nil)) rfl)))))
theorem sc_Device_write_cell : FnScope N_Device_write_cell ["self", "job"] (defScope s_Device_write_cell) := ⟨rfl, rfl, rfl, by decide +kernel, rfl, by decide +kernel, by decide +kernel⟩
theorem ok_Device_write_cell (T : Tx P w K mg) (hF : ∃ fd, FunD K "write_cell" "Device.write_cell" (defArgs s_Device_write_cell) (defBody s_Device_write_cell) (defScope s_Device_write_cell) [] [] (He.fAd K ("Device", some "write_cell")) fd) (h_Device_access : Okd P w K mg base 7 (He.fAd K ("Device", some "access")) ["self", "request"] (spA K a_Device_access)) (h_buffer_page : Okd P w K mg base 1 (He.fAd K ("buffer_page", none)) ["tag"] (spA K a_buffer_page)) (h_Device_drop : Okd P w K mg base 1 (He.fAd K ("Device", some "drop")) ["self", "job"] (spA K a_Device_drop)) : Okd P w K mg base 8 (He.fAd K ("Device", some "write_cell")) ["self", "job"] (spA K a_Device_write_cell) := by
  obtain ⟨fd_Device_access, G_Device_access, b_Device_access, kp_Device_access, _⟩ := h_Device_access
  obtain ⟨fd_buffer_page, G_buffer_page, b_buffer_page, kp_buffer_page, _⟩ := h_buffer_page
  obtain ⟨fd_Device_drop, G_Device_drop, b_Device_drop, kp_Device_drop, _⟩ := h_Device_drop
  refine okA hF sc_Device_write_cell rfl rfl (fun _ _ _ _ _ _ us hl => match us, hl with | [_, _], _ => rfl) (fun cdv A outer s H E hr => ?_)
  have nd := sc_Device_write_cell.nd
  exact (y_cons (y_if (d_not (d_tru (d_meth (d_var (pv 0)) T.cl_Device T.m_Device__access G_Device_access (hr.mono (by decide)) b_Device_access (fun σ => passAt (takes_of rfl rfl rfl rfl) σ) (d_cons (d_tup (d_cons (d_str "dma write" pe_str so_12) (d_cons (d_call G_buffer_page (hr.mono (by decide)) rfl T.g_buffer_page kp_buffer_page b_buffer_page (fun σ => passAt (takes_of rfl rfl rfl rfl) σ) (d_cons (d_fld "tag" (d_var (pv 1)) rfl) d_nil)) (d_cons (d_fld "moved" (d_var (pv 1)) rfl) (d_cons (d_ix (d_fld "content" (d_var (pv 1)) rfl) (d_fld "moved" (d_var (pv 1)) rfl) (fun _ _ => rfl)) d_nil))))) d_nil)))) (y_cons (y_drop (d_meth (d_var (pv 0)) T.cl_Device T.m_Device__drop G_Device_drop (hr.mono (by decide)) b_Device_drop (fun σ => passAt (takes_of rfl rfl rfl rfl) σ) (d_cons (d_var (pv 1)) d_nil)))
  (y_one y_retN)) y_nil)
  (y_one (y_fa "moved" (d_var (pv 1)) (d_int pe_int))))
theorem sc_is_count : FnScope N_is_count ["value"] (defScope s_is_count) := ⟨rfl, rfl, rfl, by decide +kernel, rfl, by decide +kernel, by decide +kernel⟩
theorem ok_is_count (T : Tx P w K mg) (hF : ∃ fd, FunD K "is_count" "is_count" (defArgs s_is_count) (defBody s_is_count) (defScope s_is_count) [] [] (He.fAd K ("is_count", none)) fd)  : Okd P w K mg base 1 (He.fAd K ("is_count", none)) ["value"] (spA K a_is_count) := by
  refine okA hF sc_is_count rfl rfl (fun _ _ _ _ _ _ us hl => match us, hl with | [_], _ => rfl) (fun cdv A outer s H E hr => ?_)
  have nd := sc_is_count.nd
  exact (y_one (y_ret (d_vand (d_callB cr_isi k_isi (by rfl) T.b_isinstance (by decide +kernel) (d_cons (d_var (pv 0)) (d_cons (d_ty (pe_bltn (v := .ty "int") (by rfl) T.b_int (by decide +kernel) rfl)) d_nil))) (d_vand (d_vnot (d_callB cr_isi k_isi (by rfl) T.b_isinstance (by decide +kernel) (d_cons (d_var (pv 0)) (d_cons (d_ty (pe_bltn (v := .ty "bool") (by rfl) T.b_bool (by decide +kernel) rfl)) d_nil)))) (d_vone (d_cmp op_geI k_ge (d_var (pv 0)) (d_int pe_int) (nomark _)))))))
theorem sc_phase_of : FnScope N_phase_of ["number"] (defScope s_phase_of) := ⟨rfl, rfl, rfl, by decide +kernel, rfl, by decide +kernel, by decide +kernel⟩
theorem ok_phase_of (T : Tx P w K mg) (hF : ∃ fd, FunD K "phase_of" "phase_of" (defArgs s_phase_of) (defBody s_phase_of) (defScope s_phase_of) [] [] (He.fAd K ("phase_of", none)) fd)  : Okd P w K mg base 1 (He.fAd K ("phase_of", none)) ["number"] (spA K a_phase_of) := by
  refine okA hF sc_phase_of rfl rfl (fun _ _ _ _ _ _ us hl => match us, hl with | [_], _ => rfl) (fun cdv A outer s H E hr => ?_)
  have nd := sc_phase_of.nd
  exact (y_one (y_ret (d_op op_subN k_sub (d_int pe_int) (d_op op_modI k_mod (d_op op_divN k_div (d_var (pv 0)) (d_int (pe_gint rfl T.c_SLOTS))) (d_int pe_int)))))
theorem sc_completion : FnScope N_completion ["tag", "number"] (defScope s_completion) := ⟨rfl, rfl, rfl, by decide +kernel, rfl, by decide +kernel, by decide +kernel⟩
theorem ok_completion (T : Tx P w K mg) (hF : ∃ fd, FunD K "completion" "completion" (defArgs s_completion) (defBody s_completion) (defScope s_completion) [] [] (He.fAd K ("completion", none)) fd) (h_is_within : Okd P w K mg base 1 (He.fAd K ("is_within", none)) ["value", "low", "high"] (spA K a_is_within)) (h_is_count : Okd P w K mg base 1 (He.fAd K ("is_count", none)) ["value"] (spA K a_is_count)) (h_phase_of : Okd P w K mg base 1 (He.fAd K ("phase_of", none)) ["number"] (spA K a_phase_of)) : Okd P w K mg base 2 (He.fAd K ("completion", none)) ["tag", "number"] (spA K a_completion) := by
  obtain ⟨fd_is_within, G_is_within, b_is_within, kp_is_within, _⟩ := h_is_within
  obtain ⟨fd_is_count, G_is_count, b_is_count, kp_is_count, _⟩ := h_is_count
  obtain ⟨fd_phase_of, G_phase_of, b_phase_of, kp_phase_of, _⟩ := h_phase_of
  refine okA hF sc_completion rfl rfl (fun _ _ _ _ _ _ us hl => match us, hl with | [_, _], _ => rfl) (fun cdv A outer s H E hr => ?_)
  have nd := sc_completion.nd
  exact (y_cons (y_if (PW.pt (d_or (d_not (d_tru (d_call G_is_within (hr.mono (by decide)) rfl T.g_is_within kp_is_within b_is_within (fun σ => passAt (takes_of rfl rfl rfl rfl) σ) (d_cons (d_var (pv 0)) (d_cons (d_int pe_int) (d_cons (d_op op_subN k_sub (d_int (pe_gint rfl T.c_TAGS)) (d_int pe_int)) d_nil)))))) (d_or1 (d_not (d_tru (d_call G_is_count (hr.mono (by decide)) rfl T.g_is_count kp_is_count b_is_count (fun σ => passAt (takes_of rfl rfl rfl rfl) σ) (d_cons (d_var (pv 1)) d_nil))))))) (y_one (y_raise (ps_raise0 T.x_NotValid rfl (takes_of rfl rfl rfl rfl) rfl))) y_nil)
  (y_one (y_ret (d_tup (d_cons (d_var (pv 0)) (d_cons (d_str "done" pe_str so_0) (d_cons (d_call G_phase_of (hr.mono (by decide)) rfl T.g_phase_of kp_phase_of b_phase_of (fun σ => passAt (takes_of rfl rfl rfl rfl) σ) (d_cons (d_var (pv 1)) d_nil)) d_nil)))))))
theorem sc_slot_of : FnScope N_slot_of ["number"] (defScope s_slot_of) := ⟨rfl, rfl, rfl, by decide +kernel, rfl, by decide +kernel, by decide +kernel⟩
theorem ok_slot_of (T : Tx P w K mg) (hF : ∃ fd, FunD K "slot_of" "slot_of" (defArgs s_slot_of) (defBody s_slot_of) (defScope s_slot_of) [] [] (He.fAd K ("slot_of", none)) fd)  : Okd P w K mg base 1 (He.fAd K ("slot_of", none)) ["number"] (spA K a_slot_of) := by
  refine okA hF sc_slot_of rfl rfl (fun _ _ _ _ _ _ us hl => match us, hl with | [_], _ => rfl) (fun cdv A outer s H E hr => ?_)
  have nd := sc_slot_of.nd
  exact (y_one (y_ret (d_op op_modI k_mod (d_var (pv 0)) (d_int (pe_gint rfl T.c_SLOTS)))))
theorem sc_Device_complete : FnScope N_Device_complete ["self", "job"] (defScope s_Device_complete) := ⟨rfl, rfl, rfl, by decide +kernel, rfl, by decide +kernel, by decide +kernel⟩
theorem ok_Device_complete (T : Tx P w K mg) (hF : ∃ fd, FunD K "complete" "Device.complete" (defArgs s_Device_complete) (defBody s_Device_complete) (defScope s_Device_complete) [] [] (He.fAd K ("Device", some "complete")) fd) (h_Device_drop : Okd P w K mg base 1 (He.fAd K ("Device", some "drop")) ["self", "job"] (spA K a_Device_drop)) (h_completion : Okd P w K mg base 2 (He.fAd K ("completion", none)) ["tag", "number"] (spA K a_completion)) (h_Device_access : Okd P w K mg base 7 (He.fAd K ("Device", some "access")) ["self", "request"] (spA K a_Device_access)) (h_slot_of : Okd P w K mg base 1 (He.fAd K ("slot_of", none)) ["number"] (spA K a_slot_of)) (h_interrupt : Okd P w K mg base 2 (He.fAd K ("interrupt", none)) ["device"] (spA K a_interrupt)) : Okd P w K mg base 8 (He.fAd K ("Device", some "complete")) ["self", "job"] (spA K a_Device_complete) := by
  obtain ⟨fd_Device_drop, G_Device_drop, b_Device_drop, kp_Device_drop, _⟩ := h_Device_drop
  obtain ⟨fd_completion, G_completion, b_completion, kp_completion, _⟩ := h_completion
  obtain ⟨fd_Device_access, G_Device_access, b_Device_access, kp_Device_access, _⟩ := h_Device_access
  obtain ⟨fd_slot_of, G_slot_of, b_slot_of, kp_slot_of, _⟩ := h_slot_of
  obtain ⟨fd_interrupt, G_interrupt, b_interrupt, kp_interrupt, _⟩ := h_interrupt
  refine okA hF sc_Device_complete rfl rfl (fun _ _ _ _ _ _ us hl => match us, hl with | [_, _], _ => rfl) (fun cdv A outer s H E hr => ?_)
  have nd := sc_Device_complete.nd
  exact (y_cons (y_drop (d_meth (d_var (pv 0)) T.cl_Device T.m_Device__drop G_Device_drop (hr.mono (by decide)) b_Device_drop (fun σ => passAt (takes_of rfl rfl rfl rfl) σ) (d_cons (d_var (pv 1)) d_nil)))
  (y_cons (y_set (ps_set (i := 2) nd rfl (Or.inl rfl) (d_call G_completion (hr.mono (by decide)) rfl T.g_completion kp_completion b_completion (fun σ => passAt (takes_of rfl rfl rfl rfl) σ) (d_cons (d_fld "tag" (d_var (pv 1)) rfl) (d_cons (d_fld "completed" (d_var (pv 0)) rfl) d_nil)))))
  (y_one (y_if (d_tru (d_meth (d_var (pv 0)) T.cl_Device T.m_Device__access G_Device_access (hr.mono (by decide)) b_Device_access (fun σ => passAt (takes_of rfl rfl rfl rfl) σ) (d_cons (d_tup (d_cons (d_str "dma write" pe_str so_12) (d_cons (d_int (pe_gint rfl T.c_COMPLETIONS)) (d_cons (d_call G_slot_of (hr.mono (by decide)) rfl T.g_slot_of kp_slot_of b_slot_of (fun σ => passAt (takes_of rfl rfl rfl rfl) σ) (d_cons (d_fld "completed" (d_var (pv 0)) rfl) d_nil)) (d_cons (d_var (pv 2)) d_nil))))) d_nil))) (y_cons (y_fa "completed" (d_var (pv 0)) (d_int pe_int))
  (y_one (y_sf "pending" (d_var (pv 0)) (d_lst (d_cons (d_tup (d_cons (d_str "write" pe_str so_1) (d_cons (d_call G_interrupt (hr.mono (by decide)) rfl T.g_interrupt kp_interrupt b_interrupt (fun σ => passAt (takes_of rfl rfl rfl rfl) σ) (d_cons (d_fld "device" (d_var (pv 0)) rfl) d_nil)) (d_cons (d_int pe_int) d_nil)))) d_nil)) rfl))) y_nil))))
theorem sc_Device_go_on : FnScope N_Device_go_on ["self", "job"] (defScope s_Device_go_on) := ⟨rfl, rfl, rfl, by decide +kernel, rfl, by decide +kernel, by decide +kernel⟩
theorem ok_Device_go_on (T : Tx P w K mg) (hF : ∃ fd, FunD K "go_on" "Device.go_on" (defArgs s_Device_go_on) (defBody s_Device_go_on) (defScope s_Device_go_on) [] [] (He.fAd K ("Device", some "go_on")) fd) (h_Device_read_cell : Okd P w K mg base 8 (He.fAd K ("Device", some "read_cell")) ["self", "job"] (spA K a_Device_read_cell)) (h_Device_decide : Okd P w K mg base 8 (He.fAd K ("Device", some "decide")) ["self", "job"] (spA K a_Device_decide)) (h_Device_write_cell : Okd P w K mg base 8 (He.fAd K ("Device", some "write_cell")) ["self", "job"] (spA K a_Device_write_cell)) (h_Device_complete : Okd P w K mg base 8 (He.fAd K ("Device", some "complete")) ["self", "job"] (spA K a_Device_complete)) : Okd P w K mg base 9 (He.fAd K ("Device", some "go_on")) ["self", "job"] (spA K a_Device_go_on) := by
  obtain ⟨fd_Device_read_cell, G_Device_read_cell, b_Device_read_cell, kp_Device_read_cell, _⟩ := h_Device_read_cell
  obtain ⟨fd_Device_decide, G_Device_decide, b_Device_decide, kp_Device_decide, _⟩ := h_Device_decide
  obtain ⟨fd_Device_write_cell, G_Device_write_cell, b_Device_write_cell, kp_Device_write_cell, _⟩ := h_Device_write_cell
  obtain ⟨fd_Device_complete, G_Device_complete, b_Device_complete, kp_Device_complete, _⟩ := h_Device_complete
  refine okA hF sc_Device_go_on rfl rfl (fun _ _ _ _ _ _ us hl => match us, hl with | [_, _], _ => rfl) (fun cdv A outer s H E hr => ?_)
  have nd := sc_Device_go_on.nd
  exact (y_one (y_if (d_not (d_tru (d_fld "is_decided" (d_var (pv 1)) rfl))) (y_one (y_if (PW.pt (d_and (d_tcmp (op_eqM (hu65 hr)) k_eq (d_fld "kind" (d_var (pv 1)) rfl) (d_str "write" pe_str so_1) (nomark _)) (d_and1 (d_tcmp op_ltI k_lt (d_fld "moved" (d_var (pv 1)) rfl) (d_int (pe_gint rfl T.c_CELLS)) (nomark _))))) (y_one (y_drop (d_meth (d_var (pv 0)) T.cl_Device T.m_Device__read_cell G_Device_read_cell (hr.mono (by decide)) b_Device_read_cell (fun σ => passAt (takes_of rfl rfl rfl rfl) σ) (d_cons (d_var (pv 1)) d_nil)))) (y_one (y_drop (d_meth (d_var (pv 0)) T.cl_Device T.m_Device__decide G_Device_decide (hr.mono (by decide)) b_Device_decide (fun σ => passAt (takes_of rfl rfl rfl rfl) σ) (d_cons (d_var (pv 1)) d_nil)))))) (y_one (y_if (PW.pt (d_and (d_tcmp (op_eqM (hu65 hr)) k_eq (d_fld "kind" (d_var (pv 1)) rfl) (d_str "read" pe_str so_10) (nomark _)) (d_and1 (d_tcmp op_ltI k_lt (d_fld "moved" (d_var (pv 1)) rfl) (d_int (pe_gint rfl T.c_CELLS)) (nomark _))))) (y_one (y_drop (d_meth (d_var (pv 0)) T.cl_Device T.m_Device__write_cell G_Device_write_cell (hr.mono (by decide)) b_Device_write_cell (fun σ => passAt (takes_of rfl rfl rfl rfl) σ) (d_cons (d_var (pv 1)) d_nil)))) (y_one (y_drop (d_meth (d_var (pv 0)) T.cl_Device T.m_Device__complete G_Device_complete (hr.mono (by decide)) b_Device_complete (fun σ => passAt (takes_of rfl rfl rfl rfl) σ) (d_cons (d_var (pv 1)) d_nil))))))))
theorem sc_are_parts : FnScope N_are_parts ["tag", "kind", "block", "sequence"] (defScope s_are_parts) := ⟨rfl, rfl, rfl, by decide +kernel, rfl, by decide +kernel, by decide +kernel⟩
theorem ok_are_parts (T : Tx P w K mg) (hF : ∃ fd, FunD K "are_parts" "are_parts" (defArgs s_are_parts) (defBody s_are_parts) (defScope s_are_parts) [] [] (He.fAd K ("are_parts", none)) fd) (h_is_within : Okd P w K mg base 1 (He.fAd K ("is_within", none)) ["value", "low", "high"] (spA K a_is_within)) (h_is_count : Okd P w K mg base 1 (He.fAd K ("is_count", none)) ["value"] (spA K a_is_count)) : Okd P w K mg base 2 (He.fAd K ("are_parts", none)) ["tag", "kind", "block", "sequence"] (spA K a_are_parts) := by
  obtain ⟨fd_is_within, G_is_within, b_is_within, kp_is_within, _⟩ := h_is_within
  obtain ⟨fd_is_count, G_is_count, b_is_count, kp_is_count, _⟩ := h_is_count
  refine okA hF sc_are_parts rfl rfl (fun _ _ _ _ _ _ us hl => match us, hl with | [_, _, _, _], _ => rfl) (fun cdv A outer s H E hr => ?_)
  have nd := sc_are_parts.nd
  exact (y_cons (y_if (PW.pt (d_or (d_not (d_tru (d_call G_is_within (hr.mono (by decide)) rfl T.g_is_within kp_is_within b_is_within (fun σ => passAt (takes_of rfl rfl rfl rfl) σ) (d_cons (d_var (pv 0)) (d_cons (d_int pe_int) (d_cons (d_op op_subN k_sub (d_int (pe_gint rfl T.c_TAGS)) (d_int pe_int)) d_nil)))))) (d_or (d_not (d_tru (d_callB cr_isi k_isi (by rfl) T.b_isinstance (by decide +kernel) (d_cons (d_var (pv 1)) (d_cons (d_ty (pe_bltn (v := .ty "str") (by rfl) T.b_str (by decide +kernel) rfl)) d_nil))))) (d_or1 (d_tcmp (op_niM (hu65 hr)) k_ni (d_var (pv 1)) (d_c (pe_glob (v := .ref (He.ga K "KINDS")) rfl T.g_KINDS rfl) T.v_KINDS) rfl))))) (y_one (y_ret (d_bl pe_bl))) y_nil)
  (y_one (y_ret (d_vand (d_call G_is_within (hr.mono (by decide)) rfl T.g_is_within kp_is_within b_is_within (fun σ => passAt (takes_of rfl rfl rfl rfl) σ) (d_cons (d_var (pv 2)) (d_cons (d_int pe_int) (d_cons (d_int (pe_gint rfl T.c_MOST_BLOCK)) d_nil)))) (d_vone (d_call G_is_count (hr.mono (by decide)) rfl T.g_is_count kp_is_count b_is_count (fun σ => passAt (takes_of rfl rfl rfl rfl) σ) (d_cons (d_var (pv 3)) d_nil)))))))
theorem sc_is_new_descriptor : FnScope N_is_new_descriptor ["value", "number"] (defScope s_is_new_descriptor) := ⟨rfl, rfl, rfl, by decide +kernel, rfl, by decide +kernel, by decide +kernel⟩
theorem ok_is_new_descriptor (T : Tx P w K mg) (hF : ∃ fd, FunD K "is_new_descriptor" "is_new_descriptor" (defArgs s_is_new_descriptor) (defBody s_is_new_descriptor) (defScope s_is_new_descriptor) [] [] (He.fAd K ("is_new_descriptor", none)) fd) (h_are_parts : Okd P w K mg base 2 (He.fAd K ("are_parts", none)) ["tag", "kind", "block", "sequence"] (spA K a_are_parts)) (h_is_within : Okd P w K mg base 1 (He.fAd K ("is_within", none)) ["value", "low", "high"] (spA K a_is_within)) (h_phase_of : Okd P w K mg base 1 (He.fAd K ("phase_of", none)) ["number"] (spA K a_phase_of)) : Okd P w K mg base 3 (He.fAd K ("is_new_descriptor", none)) ["value", "number"] (spA K a_is_new_descriptor) := by
  obtain ⟨fd_are_parts, G_are_parts, b_are_parts, kp_are_parts, _⟩ := h_are_parts
  obtain ⟨fd_is_within, G_is_within, b_is_within, kp_is_within, _⟩ := h_is_within
  obtain ⟨fd_phase_of, G_phase_of, b_phase_of, kp_phase_of, _⟩ := h_phase_of
  refine okA hF sc_is_new_descriptor rfl rfl (fun _ _ _ _ _ _ us hl => match us, hl with | [_, _], _ => rfl) (fun cdv A outer s H E hr => ?_)
  have nd := sc_is_new_descriptor.nd
  exact (y_cons (y_if (PW.pt (d_or (d_not (d_tru (d_callB cr_isi k_isi (by rfl) T.b_isinstance (by decide +kernel) (d_cons (d_var (pv 0)) (d_cons (d_ty (pe_bltn (v := .ty "tuple") (by rfl) T.b_tuple (by decide +kernel) rfl)) d_nil))))) (d_or1 (d_tcmp (op_neM (hu65 hr)) k_ne (d_callB cr_lenM k_len (by rfl) T.b_len (by decide +kernel) (d_cons (d_var (pv 0)) d_nil)) (d_int pe_int) (nomark _))))) (y_one (y_ret (d_bl pe_bl))) y_nil)
  (y_cons (y_asg (d_var (pv 0)) (g_tup rfl (g_cons (g_name (pg_name (i := 2) nd rfl (Or.inl rfl))) (g_cons (g_name (pg_name (i := 3) nd rfl (Or.inl rfl))) (g_cons (g_name (pg_name (i := 4) nd rfl (Or.inl rfl))) (g_cons (g_name (pg_name (i := 5) nd rfl (Or.inl rfl))) (g_cons (g_name (pg_name (i := 6) nd rfl (Or.inl rfl))) g_nil)))))))
  (y_cons (y_if (PW.pt (d_or (d_not (d_tru (d_call G_are_parts (hr.mono (by decide)) rfl T.g_are_parts kp_are_parts b_are_parts (fun σ => passAt (takes_of rfl rfl rfl rfl) σ) (d_cons (d_var (pv 2)) (d_cons (d_var (pv 3)) (d_cons (d_var (pv 4)) (d_cons (d_var (pv 6)) d_nil))))))) (d_or1 (d_not (d_tru (d_call G_is_within (hr.mono (by decide)) rfl T.g_is_within kp_is_within b_is_within (fun σ => passAt (takes_of rfl rfl rfl rfl) σ) (d_cons (d_var (pv 5)) (d_cons (d_int pe_int) (d_cons (d_int pe_int) d_nil))))))))) (y_one (y_ret (d_bl pe_bl))) y_nil)
  (y_one (y_ret (d_vand (d_cmp (op_eqM (hu65 hr)) k_eq (d_var (pv 5)) (d_call G_phase_of (hr.mono (by decide)) rfl T.g_phase_of kp_phase_of b_phase_of (fun σ => passAt (takes_of rfl rfl rfl rfl) σ) (d_cons (d_var (pv 1)) d_nil)) (nomark _)) (d_vone (d_cmp (op_eqM (hu65 hr)) k_eq (d_var (pv 6)) (d_var (pv 1)) (nomark _)))))))))
theorem sc_Job_init : FnScope N_Job_init ["self", "descriptor"] (defScope s_Job_init) := ⟨rfl, rfl, rfl, by decide +kernel, rfl, by decide +kernel, by decide +kernel⟩
theorem ok_Job_init (T : Tx P w K mg) (hF : ∃ fd, FunD K "__init__" "Job.__init__" (defArgs s_Job_init) (defBody s_Job_init) (defScope s_Job_init) [] [] (He.fAd K ("Job", some "__init__")) fd)  : Okd P w K mg base 1 (He.fAd K ("Job", some "__init__")) ["self", "descriptor"] (spA K a_Job_init) := by
  refine okA hF sc_Job_init rfl rfl (fun _ _ _ _ _ _ us hl => match us, hl with | [_, _], _ => rfl) (fun cdv A outer s H E hr => ?_)
  have nd := sc_Job_init.nd
  exact (y_cons (y_sfn "Job" "descriptor" T.na_Job__descriptor (d_var (pv 0)) (d_var (pv 1)) rfl)
  (y_cons (y_asg (d_sl (d_var (pv 1)) d_nopart (d_part (d_int pe_int))) (g_tup rfl (g_cons (g_attr "Job" "tag" T.na_Job__tag (d_var (pv 0))) (g_cons (g_attr "Job" "kind" T.na_Job__kind (d_var (pv 0))) (g_cons (g_attr "Job" "block" T.na_Job__block (d_var (pv 0))) g_nil)))))
  (y_cons (y_sfn "Job" "sequence" T.na_Job__sequence (d_var (pv 0)) (d_ix (d_var (pv 1)) (d_int pe_int) (fun _ _ => rfl)) rfl)
  (y_cons (y_sfn "Job" "content" T.na_Job__content (d_var (pv 0)) (d_lst d_nil) rfl)
  (y_cons (y_sfn "Job" "moved" T.na_Job__moved (d_var (pv 0)) (d_int pe_int) rfl)
  (y_one (y_sfn "Job" "is_decided" T.na_Job__is_decided (d_var (pv 0)) (d_bl pe_bl) rfl)))))))
theorem sc_Device_look_for_descriptor : FnScope N_Device_look_for_descriptor ["self"] (defScope s_Device_look_for_descriptor) := ⟨rfl, rfl, rfl, by decide +kernel, rfl, by decide +kernel, by decide +kernel⟩
theorem ok_Device_look_for_descriptor (T : Tx P w K mg) (hF : ∃ fd, FunD K "look_for_descriptor" "Device.look_for_descriptor" (defArgs s_Device_look_for_descriptor) (defBody s_Device_look_for_descriptor) (defScope s_Device_look_for_descriptor) [] [] (He.fAd K ("Device", some "look_for_descriptor")) fd) (h_Device_access : Okd P w K mg base 7 (He.fAd K ("Device", some "access")) ["self", "request"] (spA K a_Device_access)) (h_slot_of : Okd P w K mg base 1 (He.fAd K ("slot_of", none)) ["number"] (spA K a_slot_of)) (h_is_new_descriptor : Okd P w K mg base 3 (He.fAd K ("is_new_descriptor", none)) ["value", "number"] (spA K a_is_new_descriptor)) (h_Job_init : Okd P w K mg base 1 (He.fAd K ("Job", some "__init__")) ["self", "descriptor"] (spA K a_Job_init)) : Okd P w K mg base 8 (He.fAd K ("Device", some "look_for_descriptor")) ["self"] (spA K a_Device_look_for_descriptor) := by
  obtain ⟨fd_Device_access, G_Device_access, b_Device_access, kp_Device_access, _⟩ := h_Device_access
  obtain ⟨fd_slot_of, G_slot_of, b_slot_of, kp_slot_of, _⟩ := h_slot_of
  obtain ⟨fd_is_new_descriptor, G_is_new_descriptor, b_is_new_descriptor, kp_is_new_descriptor, _⟩ := h_is_new_descriptor
  obtain ⟨fd_Job_init, G_Job_init, b_Job_init, kp_Job_init, _⟩ := h_Job_init
  refine okA hF sc_Device_look_for_descriptor rfl rfl (fun _ _ _ _ _ _ us hl => match us, hl with | [_], _ => rfl) (fun cdv A outer s H E hr => ?_)
  have nd := sc_Device_look_for_descriptor.nd
  exact (y_cons (y_set (ps_set (i := 1) nd rfl (Or.inl rfl) (d_meth (d_var (pv 0)) T.cl_Device T.m_Device__access G_Device_access (hr.mono (by decide)) b_Device_access (fun σ => passAt (takes_of rfl rfl rfl rfl) σ) (d_cons (d_tup (d_cons (d_str "dma read" pe_str so_11) (d_cons (d_int (pe_gint rfl T.c_SUBMISSIONS)) (d_cons (d_call G_slot_of (hr.mono (by decide)) rfl T.g_slot_of kp_slot_of b_slot_of (fun σ => passAt (takes_of rfl rfl rfl rfl) σ) (d_cons (d_fld "taken" (d_var (pv 0)) rfl) d_nil)) d_nil)))) d_nil))))
  (y_one (y_if (PW.pt (d_and (d_tcmp op_notN1 k_notN (d_var (pv 1)) (d_non pe_non) (nomark _)) (d_and1 (d_tru (d_call G_is_new_descriptor (hr.mono (by decide)) rfl T.g_is_new_descriptor kp_is_new_descriptor b_is_new_descriptor (fun σ => passAt (takes_of rfl rfl rfl rfl) σ) (d_cons (d_ix (d_var (pv 1)) (d_int pe_int) (fun _ _ => rfl)) (d_cons (d_fld "taken" (d_var (pv 0)) rfl) d_nil))))))) (y_cons (y_drop (d_app (d_fld "under_way" (d_var (pv 0)) rfl) (d_cons (d_make T.cl_Job T.mk_Job G_Job_init (hr.mono (by decide)) rfl T.g_Job b_Job_init (d_cons (d_ix (d_var (pv 1)) (d_int pe_int) (fun _ _ => rfl)) d_nil)) d_nil)))
  (y_one (y_fa "taken" (d_var (pv 0)) (d_int pe_int)))) y_nil)))
theorem sc_Device_step : FnScope N_Device_step ["self", "choice"] (defScope s_Device_step) := ⟨rfl, rfl, rfl, by decide +kernel, rfl, by decide +kernel, by decide +kernel⟩
theorem ok_Device_step (T : Tx P w K mg) (hF : ∃ fd, FunD K "step" "Device.step" (defArgs s_Device_step) (defBody s_Device_step) (defScope s_Device_step) [] [] (He.fAd K ("Device", some "step")) fd) (h_Device_access : Okd P w K mg base 7 (He.fAd K ("Device", some "access")) ["self", "request"] (spA K a_Device_access)) (h_Device_look_for_reset : Okd P w K mg base 8 (He.fAd K ("Device", some "look_for_reset")) ["self"] (spA K a_Device_look_for_reset)) (h_Device_go_on : Okd P w K mg base 9 (He.fAd K ("Device", some "go_on")) ["self", "job"] (spA K a_Device_go_on)) (h_Device_look_for_descriptor : Okd P w K mg base 8 (He.fAd K ("Device", some "look_for_descriptor")) ["self"] (spA K a_Device_look_for_descriptor)) : Okd P w K mg base 10 (He.fAd K ("Device", some "step")) ["self", "choice"] (spA K a_Device_step) := by
  obtain ⟨fd_Device_access, G_Device_access, b_Device_access, kp_Device_access, _⟩ := h_Device_access
  obtain ⟨fd_Device_look_for_reset, G_Device_look_for_reset, b_Device_look_for_reset, kp_Device_look_for_reset, _⟩ := h_Device_look_for_reset
  obtain ⟨fd_Device_go_on, G_Device_go_on, b_Device_go_on, kp_Device_go_on, _⟩ := h_Device_go_on
  obtain ⟨fd_Device_look_for_descriptor, G_Device_look_for_descriptor, b_Device_look_for_descriptor, kp_Device_look_for_descriptor, _⟩ := h_Device_look_for_descriptor
  refine okA hF sc_Device_step rfl rfl (fun _ _ _ _ _ _ us hl => match us, hl with | [_, _], _ => rfl) (fun cdv A outer s H E hr => ?_)
  have nd := sc_Device_step.nd
  exact (y_cons (y_if (d_tru (d_fld "pending" (d_var (pv 0)) rfl)) (y_cons (y_set (ps_set (i := 2) nd rfl (Or.inl rfl) (d_ix (d_fld "pending" (d_var (pv 0)) rfl) (d_int pe_int) (fun _ _ => rfl))))
  (y_cons (y_sf "pending" (d_var (pv 0)) (d_sl (d_fld "pending" (d_var (pv 0)) rfl) (d_part (d_int pe_int)) d_nopart) rfl)
  (y_one (y_drop (d_meth (d_var (pv 0)) T.cl_Device T.m_Device__access G_Device_access (hr.mono (by decide)) b_Device_access (fun σ => passAt (takes_of rfl rfl rfl rfl) σ) (d_cons (d_var (pv 2)) d_nil)))))) (y_one (y_if (d_tcmp (op_eqM (hu65 hr)) k_eq (d_op op_modI k_mod (d_var (pv 1)) (d_int pe_int)) (d_int pe_int) (nomark _)) (y_one (y_drop (d_meth0 (d_var (pv 0)) T.cl_Device T.m_Device__look_for_reset G_Device_look_for_reset (hr.mono (by decide)) b_Device_look_for_reset))) (y_one (y_if (PW.pt (d_and (d_tru (d_fld "under_way" (d_var (pv 0)) rfl)) (d_and1 (PW.pt (d_or (d_tcmp op_gtI k_gt (d_op op_modI k_mod (d_var (pv 1)) (d_int pe_int)) (d_int pe_int) (nomark _)) (d_or1 (d_tcmp (op_eqM (hu65 hr)) k_eq (d_callB cr_lenM k_len (by rfl) T.b_len (by decide +kernel) (d_cons (d_fld "under_way" (d_var (pv 0)) rfl) d_nil)) (d_int (pe_gint rfl T.c_MOST_JOBS)) (nomark _)))))))) (y_one (y_drop (d_meth (d_var (pv 0)) T.cl_Device T.m_Device__go_on G_Device_go_on (hr.mono (by decide)) b_Device_go_on (fun σ => passAt (takes_of rfl rfl rfl rfl) σ) (d_cons (d_ix (d_fld "under_way" (d_var (pv 0)) rfl) (d_op op_modI k_mod (d_op op_divN k_div (d_var (pv 1)) (d_int pe_int)) (d_callB cr_lenM k_len (by rfl) T.b_len (by decide +kernel) (d_cons (d_fld "under_way" (d_var (pv 0)) rfl) d_nil))) (fun _ _ => rfl)) d_nil)))) (y_one (y_drop (d_meth0 (d_var (pv 0)) T.cl_Device T.m_Device__look_for_descriptor G_Device_look_for_descriptor (hr.mono (by decide)) b_Device_look_for_descriptor))))))))
  (y_one (y_ret (d_bl pe_bl))))
theorem sc_Memory_log : FnScope N_Memory_log ["self"] (defScope s_Memory_log) := ⟨rfl, rfl, rfl, by decide +kernel, rfl, by decide +kernel, by decide +kernel⟩
theorem ok_Memory_log (T : Tx P w K mg) (hF : ∃ fd, FunD K "log" "Memory.log" (defArgs s_Memory_log) (defBody s_Memory_log) (defScope s_Memory_log) [] [] (He.fAd K ("Memory", some "log")) fd)  : Okd P w K mg base 1 (He.fAd K ("Memory", some "log")) ["self"] (spA K a_Memory_log) := by
  refine okA hF sc_Memory_log rfl rfl (fun _ _ _ _ _ _ us hl => match us, hl with | [_], _ => rfl) (fun cdv A outer s H E hr => ?_)
  have nd := sc_Memory_log.nd
  exact (y_one (y_ret (d_callTy cr_list k_list (by rfl) T.b_list (by decide +kernel) (d_cons (d_fld "rows" (d_var (pv 0)) rfl) d_nil))))
theorem sc_law_taken : FnScope N_law_taken ["_law_own", "_law_result"] (defScope s_law_taken) := ⟨rfl, rfl, rfl, by decide +kernel, rfl, by decide +kernel, by decide +kernel⟩
theorem ok_law_taken (T : Tx P w K mg) (hF : ∃ fd, FunD K "_law_taken" "_law_taken" (defArgs s_law_taken) (defBody s_law_taken) (defScope s_law_taken) [] [] (He.fAd K ("_law_taken", none)) fd)  : Okd P w K mg base 1 (He.fAd K ("_law_taken", none)) ["_law_own", "_law_result"] (spA K a_law_taken) := by
  refine okA hF sc_law_taken rfl rfl (fun _ _ _ _ _ _ us hl => match us, hl with | [_, _], _ => rfl) (fun cdv A outer s H E hr => ?_)
  have nd := sc_law_taken.nd
  exact (y_cons (y_if (PW.pt (d_or (d_tcmp op_isN1 k_isN (d_var (pv 1)) (d_non pe_non) (nomark _)) (d_or (d_not (d_tru (d_callB cr_isi k_isi (by rfl) T.b_isinstance (by decide +kernel) (d_cons (d_ix (d_var (pv 1)) (d_int pe_int) (fun _ _ => rfl)) (d_cons (d_ty (pe_bltn (v := .ty "tuple") (by rfl) T.b_tuple (by decide +kernel) rfl)) d_nil))))) (d_or1 (d_tcmp (op_neM (hu65 hr)) k_ne (d_callB cr_lenM k_len (by rfl) T.b_len (by decide +kernel) (d_cons (d_ix (d_var (pv 1)) (d_int pe_int) (fun _ _ => rfl)) d_nil)) (d_int pe_int) (nomark _)))))) (y_one y_retN) y_nil)
  (y_cons (y_set (ps_set (i := 2) nd rfl (Or.inl rfl) (d_ix (d_var (pv 1)) (d_int pe_int) (fun _ _ => rfl))))
  (y_one (y_if (PW.pt (d_and (d_tcmp (op_eqM (hu65 hr)) k_eq (d_ix (d_var (pv 2)) (d_int pe_int) (fun _ _ => rfl)) (d_dget (hu_of hr) (d_var (pv 0)) (d_str "taken" pe_str so_6) (fun _ _ => rfl)) (nomark _)) (d_and1 (d_tcmp (op_eqM (hu65 hr)) k_eq (d_ix (d_var (pv 2)) (d_int pe_int) (fun _ _ => rfl)) (d_op op_subN k_sub (d_int pe_int) (d_op op_modI k_mod (d_op op_divN k_div (d_dget (hu_of hr) (d_var (pv 0)) (d_str "taken" pe_str so_6) (fun _ _ => rfl)) (d_int pe_int)) (d_int pe_int))) (nomark _))))) (y_cons (y_putK (hu_of hr) (d_var (pv 0)) (d_str "jobs" pe_str so_4) (d_op op_addA k_add (d_dget (hu_of hr) (d_var (pv 0)) (d_str "jobs" pe_str so_4) (fun _ _ => rfl)) (d_lst (d_cons (d_disp (kfs := [(.inr "entry", xVar 2), (.inr "decided", xC (.bl false)), (.inr "moved", xC (.int 0)), (.inr "cells", xLst (xNil))]) (pps_cons pe_str (d_var (pv 2)) (pps_cons pe_str (d_bl pe_bl) (pps_cons pe_str (d_int pe_int) (pps_cons pe_str (d_lst d_nil) pps_nil)))) rfl rfl (fun z => by cases z) (by decide)) d_nil))) rfl)
  (y_one (y_putK (hu_of hr) (d_var (pv 0)) (d_str "taken" pe_str so_6) (d_op op_addA k_add (d_dget (hu_of hr) (d_var (pv 0)) (d_str "taken" pe_str so_6) (fun _ _ => rfl)) (d_int pe_int)) rfl))) y_nil))))
theorem sc_law_moved : FnScope N_law_moved ["_law_own", "_law_job", "_law_request", "_law_result"] (defScope s_law_moved) := ⟨rfl, rfl, rfl, by decide +kernel, rfl, by decide +kernel, by decide +kernel⟩
theorem ok_law_moved (T : Tx P w K mg) (hF : ∃ fd, FunD K "_law_moved" "_law_moved" (defArgs s_law_moved) (defBody s_law_moved) (defScope s_law_moved) [] [] (He.fAd K ("_law_moved", none)) fd) (h_interrupt : Okd P w K mg base 2 (He.fAd K ("interrupt", none)) ["device"] (spA K a_interrupt)) : Okd P w K mg base 3 (He.fAd K ("_law_moved", none)) ["_law_own", "_law_job", "_law_request", "_law_result"] (spA K a_law_moved) := by
  obtain ⟨fd_interrupt, G_interrupt, b_interrupt, kp_interrupt, _⟩ := h_interrupt
  refine okA hF sc_law_moved rfl rfl (fun _ _ _ _ _ _ us hl => match us, hl with | [_, _, _, _], _ => rfl) (fun cdv A outer s H E hr => ?_)
  have nd := sc_law_moved.nd
  exact (y_cons (y_if (d_tcmp (op_inM (hu65 hr)) k_in (d_ix (d_var (pv 2)) (d_int pe_int) (fun _ _ => rfl)) (d_tup (d_cons (d_str "commit" pe_str so_15) (d_cons (d_str "fetch" pe_str so_14) d_nil))) rfl) (y_cons (y_putK (hu_of hr) (d_var (pv 1)) (d_str "decided" pe_str so_21) (d_bl pe_bl) rfl)
  (y_cons (y_if (d_tcmp (op_eqM (hu65 hr)) k_eq (d_ix (d_var (pv 2)) (d_int pe_int) (fun _ _ => rfl)) (d_str "fetch" pe_str so_14) (nomark _)) (y_one (y_putK (hu_of hr) (d_var (pv 1)) (d_str "cells" pe_str so_23) (d_callTy cr_list k_list (by rfl) T.b_list (by decide +kernel) (d_cons (d_var (pv 3)) d_nil)) rfl)) y_nil)
  (y_one y_retN))) y_nil)
  (y_cons (y_if (PW.pt (d_or (d_tcmp (op_eqM (hu65 hr)) k_eq (d_sl (d_var (pv 2)) d_nopart (d_part (d_int pe_int))) (d_tup (d_cons (d_str "dma write" pe_str so_12) (d_cons (d_int pe_int) d_nil))) (nomark _)) (d_or (d_tcmp op_isN1 k_isN (d_var (pv 3)) (d_non pe_non) (nomark _)) (d_or1 (d_tcmp op_isBl2 k_isB2 (d_var (pv 3)) (d_bl pe_bl) (nomark _)))))) (y_cons (y_putK (hu_of hr) (d_var (pv 0)) (d_str "jobs" pe_str so_4) (d_lc (pe_lc (own := [("_law_one", 4)]) (g := gName 4) (tt := rdT K W0 (xT (xOp aNe (xOp aGet (xVar 4) (xC (.str "entry"))) (xOp aGet (xVar 1) (xC (.str "entry")))))) (te := rdE K W0 (xVar 4)) rfl nd (i_l (d_dget (hu_of hr) (d_var (pv 0)) (d_str "jobs" pe_str so_4) (fun _ _ => rfl))) (blkOk_by (own := [("_law_one", 4)]) (N := N_law_moved) (sc := defScope s_law_moved) (by decide +kernel)) (fun _ _ _ _ _ => pg_name (i := 4) nd rfl (Or.inl rfl)) (fun _ _ _ _ _ => (pts_one (d_tcmp (op_neM (hu65 hr)) k_ne (d_dget (hu_of hr) (d_var (pv 4)) (d_str "entry" pe_str so_5) (fun _ _ => rfl)) (d_dget (hu_of hr) (d_var (pv 1)) (d_str "entry" pe_str so_5) (fun _ _ => rfl)) (nomark _)))) (fun _ _ _ _ _ => (d_var (pv 4)))) (tg_name 4)) rfl)
  (y_cons (y_if (PW.pt (d_and (d_tcmp (op_eqM (hu65 hr)) k_eq (d_sl (d_var (pv 2)) d_nopart (d_part (d_int pe_int))) (d_tup (d_cons (d_str "dma write" pe_str so_12) (d_cons (d_int pe_int) d_nil))) (nomark _)) (d_and1 (d_tcmp op_isBl2 k_isB2 (d_var (pv 3)) (d_bl pe_bl) (nomark _))))) (y_cons (y_putK (hu_of hr) (d_var (pv 0)) (d_str "done" pe_str so_0) (d_op op_addA k_add (d_dget (hu_of hr) (d_var (pv 0)) (d_str "done" pe_str so_0) (fun _ _ => rfl)) (d_int pe_int)) rfl)
  (y_one (y_putK (hu_of hr) (d_var (pv 0)) (d_str "pending" pe_str so_20) (d_lst (d_cons (d_tup (d_cons (d_str "write" pe_str so_1) (d_cons (d_call G_interrupt (hr.mono (by decide)) rfl T.g_interrupt kp_interrupt b_interrupt (fun σ => passAt (takes_of rfl rfl rfl rfl) σ) (d_cons (d_int pe_int) d_nil)) (d_cons (d_int pe_int) d_nil)))) d_nil)) rfl))) y_nil)
  (y_one y_retN))) y_nil)
  (y_cons (y_if (d_tcmp (op_eqM (hu65 hr)) k_eq (d_ix (d_var (pv 2)) (d_int pe_int) (fun _ _ => rfl)) (d_str "dma read" pe_str so_11) (nomark _)) (y_one (y_drop (d_app (d_dget (hu_of hr) (d_var (pv 1)) (d_str "cells" pe_str so_23) (fun _ _ => rfl)) (d_cons (d_ix (d_var (pv 3)) (d_int pe_int) (fun _ _ => rfl)) d_nil)))) y_nil)
  (y_one (y_putK (hu_of hr) (d_var (pv 1)) (d_str "moved" pe_str so_22) (d_op op_addA k_add (d_dget (hu_of hr) (d_var (pv 1)) (d_str "moved" pe_str so_22) (fun _ _ => rfl)) (d_int pe_int)) rfl)))))
theorem sc_law_behind : FnScope N_law_behind ["_law_own", "_law_choice", "_law_request", "_law_result"] (defScope s_law_behind) := ⟨rfl, rfl, rfl, by decide +kernel, rfl, by decide +kernel, by decide +kernel⟩
theorem ok_law_behind (T : Tx P w K mg) (hF : ∃ fd, FunD K "_law_behind" "_law_behind" (defArgs s_law_behind) (defBody s_law_behind) (defScope s_law_behind) [] [] (He.fAd K ("_law_behind", none)) fd) (h_ready : Okd P w K mg base 2 (He.fAd K ("ready", none)) ["device"] (spA K a_ready)) (h_law_taken : Okd P w K mg base 1 (He.fAd K ("_law_taken", none)) ["_law_own", "_law_result"] (spA K a_law_taken)) (h_law_moved : Okd P w K mg base 3 (He.fAd K ("_law_moved", none)) ["_law_own", "_law_job", "_law_request", "_law_result"] (spA K a_law_moved)) : Okd P w K mg base 4 (He.fAd K ("_law_behind", none)) ["_law_own", "_law_choice", "_law_request", "_law_result"] (spA K a_law_behind) := by
  obtain ⟨fd_ready, G_ready, b_ready, kp_ready, _⟩ := h_ready
  obtain ⟨fd_law_taken, G_law_taken, b_law_taken, kp_law_taken, _⟩ := h_law_taken
  obtain ⟨fd_law_moved, G_law_moved, b_law_moved, kp_law_moved, _⟩ := h_law_moved
  refine okA hF sc_law_behind rfl rfl (fun _ _ _ _ _ _ us hl => match us, hl with | [_, _, _, _], _ => rfl) (fun cdv A outer s H E hr => ?_)
  have nd := sc_law_behind.nd
  exact (y_cons (y_set (ps_set (i := 4) nd rfl (Or.inl rfl) (d_dget (hu_of hr) (d_var (pv 0)) (d_str "jobs" pe_str so_4) (fun _ _ => rfl))))
  (y_one (y_if (d_tcmp (op_neE (hu65 hr)) k_neE (d_dget (hu_of hr) (d_var (pv 0)) (d_str "pending" pe_str so_20) (fun _ _ => rfl)) (d_lst d_nil) (nomark _)) (y_one (y_putK (hu_of hr) (d_var (pv 0)) (d_str "pending" pe_str so_20) (d_lst d_nil) rfl)) (y_one (y_if (d_tcmp (op_eqM (hu65 hr)) k_eq (d_ix (d_var (pv 2)) (d_int pe_int) (fun _ _ => rfl)) (d_str "read" pe_str so_10) (nomark _)) (y_one (y_if (d_tcmp (op_neM (hu65 hr)) k_ne (d_var (pv 3)) (d_dget (hu_of hr) (d_var (pv 0)) (d_str "generation" pe_str so_2) (fun _ _ => rfl)) (nomark _)) (y_cons (y_putK (hu_of hr) (d_var (pv 0)) (d_str "generation" pe_str so_2) (d_var (pv 3)) rfl)
  (y_cons (y_putK (hu_of hr) (d_var (pv 0)) (d_str "taken" pe_str so_6) (d_int pe_int) rfl)
  (y_cons (y_putK (hu_of hr) (d_var (pv 0)) (d_str "done" pe_str so_0) (d_int pe_int) rfl)
  (y_cons (y_putK (hu_of hr) (d_var (pv 0)) (d_str "jobs" pe_str so_4) (d_lst d_nil) rfl)
  (y_one (y_putK (hu_of hr) (d_var (pv 0)) (d_str "pending" pe_str so_20) (d_lst (d_cons (d_tup (d_cons (d_str "write" pe_str so_1) (d_cons (d_call G_ready (hr.mono (by decide)) rfl T.g_ready kp_ready b_ready (fun σ => passAt (takes_of rfl rfl rfl rfl) σ) (d_cons (d_int pe_int) d_nil)) (d_cons (d_var (pv 3)) d_nil)))) d_nil)) rfl)))))) y_nil)) (y_one (y_if (d_tcmp (op_eqM (hu65 hr)) k_eq (d_sl (d_var (pv 2)) d_nopart (d_part (d_int pe_int))) (d_tup (d_cons (d_str "dma read" pe_str so_11) (d_cons (d_int pe_int) d_nil))) (nomark _)) (y_one (y_drop (d_call G_law_taken (hr.mono (by decide)) rfl T.g__law_taken kp_law_taken b_law_taken (fun σ => passAt (takes_of rfl rfl rfl rfl) σ) (d_cons (d_var (pv 0)) (d_cons (d_var (pv 3)) d_nil))))) (y_one (y_drop (d_call G_law_moved (hr.mono (by decide)) rfl T.g__law_moved kp_law_moved b_law_moved (fun σ => passAt (takes_of rfl rfl rfl rfl) σ) (d_cons (d_var (pv 0)) (d_cons (d_ix (d_var (pv 4)) (d_op op_modI k_mod (d_op op_divN k_div (d_var (pv 1)) (d_int pe_int)) (d_callB cr_lenM k_len (by rfl) T.b_len (by decide +kernel) (d_cons (d_var (pv 4)) d_nil))) (fun _ _ => rfl)) (d_cons (d_var (pv 2)) (d_cons (d_var (pv 3)) d_nil))))))))))))))
theorem sc_Device_jobs : FnScope N_Device_jobs ["self"] (defScope s_Device_jobs) := ⟨rfl, rfl, rfl, by decide +kernel, rfl, by decide +kernel, by decide +kernel⟩
theorem ok_Device_jobs (T : Tx P w K mg) (hF : ∃ fd, FunD K "jobs" "Device.jobs" (defArgs s_Device_jobs) (defBody s_Device_jobs) (defScope s_Device_jobs) [] [] (He.fAd K ("Device", some "jobs")) fd)  : Okd P w K mg base 1 (He.fAd K ("Device", some "jobs")) ["self"] (spA K a_Device_jobs) := by
  refine okA hF sc_Device_jobs rfl rfl (fun _ _ _ _ _ _ us hl => match us, hl with | [_], _ => rfl) (fun cdv A outer s H E hr => ?_)
  have nd := sc_Device_jobs.nd
  exact (y_one (y_ret (d_lc (pe_lc (own := [("job", 1)]) (g := gName 1) (tt := rdT K W0 (xYes)) (te := rdE K W0 (xFld (xVar 1) "descriptor")) rfl nd (i_l (d_fld "under_way" (d_var (pv 0)) rfl)) (blkOk_by (own := [("job", 1)]) (N := N_Device_jobs) (sc := defScope s_Device_jobs) (by decide +kernel)) (fun _ _ _ _ _ => pg_name (i := 1) nd rfl (Or.inl rfl)) (fun _ _ _ _ _ => d_yes) (fun _ _ _ _ _ => (d_fld "descriptor" (d_var (pv 1)) rfl))) (tg_name 1))))
theorem sc_law : FnScope N_law ["_law_script"] (defScope s_law) := ⟨rfl, rfl, rfl, by decide +kernel, rfl, by decide +kernel, by decide +kernel⟩
theorem ok_law (T : Tx P w K mg) (hF : ∃ fd, FunD K "law" "law" (defArgs s_law) (defBody s_law) (defScope s_law) [] [] (He.fAd K ("law", none)) fd) (h_Memory_init : Okd P w K mg base 3 (He.fAd K ("Memory", some "__init__")) ["self"] (spA K a_Memory_init)) (h_Device_init : Okd P w K mg base 1 (He.fAd K ("Device", some "__init__")) ["self", "memory", "device"] (spA K a_Device_init)) (h_law_begin : Okd P w K mg base 8 (He.fAd K ("_law_begin", none)) ["_law_memory"] (spA K a_law_begin)) (h_law_next : Okd P w K mg base 1 (He.fAd K ("_law_next", none)) ["_law_tape", "_law_many"] (spA K a_law_next)) (h_law_describe : Okd P w K mg base 8 (He.fAd K ("_law_describe", none)) ["_law_tape", "_law_memory", "_law_number"] (spA K a_law_describe)) (h_law_driver : Okd P w K mg base 7 (He.fAd K ("_law_driver", none)) ["_law_memory", "_law_request"] (spA K a_law_driver)) (h_table_word : Okd P w K mg base 1 (He.fAd K ("table_word", none)) ["device", "page"] (spA K a_table_word)) (h_reset : Okd P w K mg base 2 (He.fAd K ("reset", none)) ["device"] (spA K a_reset)) (h_law_wish : Okd P w K mg base 3 (He.fAd K ("_law_wish", none)) ["_law_own", "_law_choice"] (spA K a_law_wish)) (h_Device_step : Okd P w K mg base 10 (He.fAd K ("Device", some "step")) ["self", "choice"] (spA K a_Device_step)) (h_Memory_log : Okd P w K mg base 1 (He.fAd K ("Memory", some "log")) ["self"] (spA K a_Memory_log)) (h_law_behind : Okd P w K mg base 4 (He.fAd K ("_law_behind", none)) ["_law_own", "_law_choice", "_law_request", "_law_result"] (spA K a_law_behind)) (h_Device_jobs : Okd P w K mg base 1 (He.fAd K ("Device", some "jobs")) ["self"] (spA K a_Device_jobs)) : Okd P w K mg base 11 (He.fAd K ("law", none)) ["_law_script"] (spA K a_law) := by
  obtain ⟨fd_Memory_init, G_Memory_init, b_Memory_init, kp_Memory_init, _⟩ := h_Memory_init
  obtain ⟨fd_Device_init, G_Device_init, b_Device_init, kp_Device_init, _⟩ := h_Device_init
  obtain ⟨fd_law_begin, G_law_begin, b_law_begin, kp_law_begin, _⟩ := h_law_begin
  obtain ⟨fd_law_next, G_law_next, b_law_next, kp_law_next, _⟩ := h_law_next
  obtain ⟨fd_law_describe, G_law_describe, b_law_describe, kp_law_describe, _⟩ := h_law_describe
  obtain ⟨fd_law_driver, G_law_driver, b_law_driver, kp_law_driver, _⟩ := h_law_driver
  obtain ⟨fd_table_word, G_table_word, b_table_word, kp_table_word, _⟩ := h_table_word
  obtain ⟨fd_reset, G_reset, b_reset, kp_reset, _⟩ := h_reset
  obtain ⟨fd_law_wish, G_law_wish, b_law_wish, kp_law_wish, _⟩ := h_law_wish
  obtain ⟨fd_Device_step, G_Device_step, b_Device_step, kp_Device_step, _⟩ := h_Device_step
  obtain ⟨fd_Memory_log, G_Memory_log, b_Memory_log, kp_Memory_log, _⟩ := h_Memory_log
  obtain ⟨fd_law_behind, G_law_behind, b_law_behind, kp_law_behind, _⟩ := h_law_behind
  obtain ⟨fd_Device_jobs, G_Device_jobs, b_Device_jobs, kp_Device_jobs, _⟩ := h_Device_jobs
  refine okA hF sc_law rfl rfl (fun _ _ _ _ _ _ us hl => match us, hl with | [_], _ => rfl) (fun cdv A outer s H E hr => ?_)
  have nd := sc_law.nd
  exact (y_cons (y_set (ps_set (i := 1) nd rfl (Or.inl rfl) (d_lst (d_cons (d_callTy cr_list k_list (by rfl) T.b_list (by decide +kernel) (d_cons (d_var (pv 0)) d_nil)) (d_cons (d_int pe_int) (d_cons (d_int pe_int) (d_cons (d_int pe_int) d_nil)))))))
  (y_cons (y_set (ps_set (i := 2) nd rfl (Or.inl rfl) (d_make0 T.cl_Memory T.mk_Memory G_Memory_init (hr.mono (by decide)) rfl T.g_Memory b_Memory_init)))
  (y_cons (y_set (ps_set (i := 3) nd rfl (Or.inl rfl) (d_make T.cl_Device T.mk_Device G_Device_init (hr.mono (by decide)) rfl T.g_Device b_Device_init (d_cons (d_var (pv 2)) (d_cons (d_int pe_int) d_nil)))))
  (y_cons (y_drop (d_call G_law_begin (hr.mono (by decide)) rfl T.g__law_begin kp_law_begin b_law_begin (fun σ => passAt (takes_of rfl rfl rfl rfl) σ) (d_cons (d_var (pv 2)) d_nil)))
  (y_cons (y_set (ps_set (i := 4) nd rfl (Or.inl rfl) (d_disp (kfs := [(.inr "generation", xC (.int 0)), (.inr "taken", xC (.int 0)), (.inr "done", xC (.int 0)), (.inr "jobs", xLst (xNil)), (.inr "pending", xLst (xNil))]) (pps_cons pe_str (d_int pe_int) (pps_cons pe_str (d_int pe_int) (pps_cons pe_str (d_int pe_int) (pps_cons pe_str (d_lst d_nil) (pps_cons pe_str (d_lst d_nil) pps_nil))))) rfl rfl (fun z => by cases z) (by decide))))
  (y_cons (y_set (ps_set (i := 5) nd rfl (Or.inl rfl) (d_int pe_int)))
  (y_cons (y_for (passes_of rfl) rfl (i_r1 (pi_range1 rfl T.b_range (d_cons (d_ix (d_tup (d_cons (d_int pe_int) (d_cons (d_int pe_int) (d_cons (d_int pe_int) d_nil)))) (d_call G_law_next (hr.mono (by decide)) rfl T.g__law_next kp_law_next b_law_next (fun σ => passAt (takes_of rfl rfl rfl rfl) σ) (d_cons (d_var (pv 1)) (d_cons (d_int pe_int) d_nil))) (fun _ _ => rfl)) d_nil))) (g_name (pg_name (i := 6) nd rfl (Or.inl rfl))) (y_cons (y_set (ps_set (i := 7) nd rfl (Or.inl rfl) (d_call G_law_next (hr.mono (by decide)) rfl T.g__law_next kp_law_next b_law_next (fun σ => passAt (takes_of rfl rfl rfl rfl) σ) (d_cons (d_var (pv 1)) (d_cons (d_int pe_int) d_nil)))))
  (y_cons (y_if (PW.pt (d_and (d_tcmp op_ltI k_lt (d_var (pv 7)) (d_int pe_int) (nomark _)) (d_and (d_tcmp op_ltI k_lt (d_var (pv 5)) (d_int pe_int) (nomark _)) (d_and1 (d_tcmp op_ltI k_lt (d_var (pv 5)) (d_op op_addA k_add (d_dget (hu_of hr) (d_var (pv 4)) (d_str "done" pe_str so_0) (fun _ _ => rfl)) (d_int pe_int)) (nomark _)))))) (y_cons (y_drop (d_call G_law_describe (hr.mono (by decide)) rfl T.g__law_describe kp_law_describe b_law_describe (fun σ => passAt (takes_of rfl rfl rfl rfl) σ) (d_cons (d_var (pv 1)) (d_cons (d_var (pv 2)) (d_cons (d_var (pv 5)) d_nil)))))
  (y_one (y_set (ps_set (i := 5) nd rfl (Or.inl rfl) (d_op op_addA k_add (d_var (pv 5)) (d_int pe_int)))))) y_nil)
  (y_cons (y_if (PW.pt (d_and (d_tcmp (op_eqM (hu65 hr)) k_eq (d_var (pv 7)) (d_int pe_int) (nomark _)) (d_and1 (d_tcmp (op_eqM (hu65 hr)) k_eq (d_call G_law_next (hr.mono (by decide)) rfl T.g__law_next kp_law_next b_law_next (fun σ => passAt (takes_of rfl rfl rfl rfl) σ) (d_cons (d_var (pv 1)) (d_cons (d_int pe_int) d_nil))) (d_int pe_int) (nomark _))))) (y_one (y_drop (d_call G_law_driver (hr.mono (by decide)) rfl T.g__law_driver kp_law_driver b_law_driver (fun σ => passAt (takes_of rfl rfl rfl rfl) σ) (d_cons (d_var (pv 2)) (d_cons (d_tup (d_cons (d_str "write" pe_str so_1) (d_cons (d_call G_table_word (hr.mono (by decide)) rfl T.g_table_word kp_table_word b_table_word (fun σ => passAt (takes_of rfl rfl rfl rfl) σ) (d_cons (d_int pe_int) (d_cons (d_op op_addA k_add (d_int pe_int) (d_call G_law_next (hr.mono (by decide)) rfl T.g__law_next kp_law_next b_law_next (fun σ => passAt (takes_of rfl rfl rfl rfl) σ) (d_cons (d_var (pv 1)) (d_cons (d_int pe_int) d_nil)))) d_nil))) (d_cons (d_non pe_non) d_nil)))) d_nil))))) y_nil)
  (y_cons (y_if (PW.pt (d_and (d_tcmp (op_eqM (hu65 hr)) k_eq (d_var (pv 7)) (d_int pe_int) (nomark _)) (d_and1 (d_tcmp (op_eqM (hu65 hr)) k_eq (d_call G_law_next (hr.mono (by decide)) rfl T.g__law_next kp_law_next b_law_next (fun σ => passAt (takes_of rfl rfl rfl rfl) σ) (d_cons (d_var (pv 1)) (d_cons (d_int pe_int) d_nil))) (d_int pe_int) (nomark _))))) (y_one (y_drop (d_call G_law_driver (hr.mono (by decide)) rfl T.g__law_driver kp_law_driver b_law_driver (fun σ => passAt (takes_of rfl rfl rfl rfl) σ) (d_cons (d_var (pv 2)) (d_cons (d_tup (d_cons (d_str "write" pe_str so_1) (d_cons (d_call G_reset (hr.mono (by decide)) rfl T.g_reset kp_reset b_reset (fun σ => passAt (takes_of rfl rfl rfl rfl) σ) (d_cons (d_int pe_int) d_nil)) (d_cons (d_op op_addA k_add (d_dget (hu_of hr) (d_var (pv 4)) (d_str "generation" pe_str so_2) (fun _ _ => rfl)) (d_int pe_int)) d_nil)))) d_nil))))) y_nil)
  (y_cons (y_set (ps_set (i := 8) nd rfl (Or.inl rfl) (d_call G_law_next (hr.mono (by decide)) rfl T.g__law_next kp_law_next b_law_next (fun σ => passAt (takes_of rfl rfl rfl rfl) σ) (d_cons (d_var (pv 1)) (d_cons (d_int pe_int) d_nil)))))
  (y_cons (y_set (ps_set (i := 9) nd rfl (Or.inl rfl) (d_call G_law_wish (hr.mono (by decide)) rfl T.g__law_wish kp_law_wish b_law_wish (fun σ => passAt (takes_of rfl rfl rfl rfl) σ) (d_cons (d_var (pv 4)) (d_cons (d_var (pv 8)) d_nil)))))
  (y_cons (y_set (ps_set (i := 10) nd rfl (Or.inl rfl) (d_fld "count" (d_var (pv 2)) rfl)))
  (y_cons (y_if (PW.pt (d_or (d_tcmp op_notBl k_notB (d_meth (d_var (pv 3)) T.cl_Device T.m_Device__step G_Device_step (hr.mono (by decide)) b_Device_step (fun σ => passAt (takes_of rfl rfl rfl rfl) σ) (d_cons (d_var (pv 8)) d_nil)) (d_bl pe_bl) (nomark _)) (d_or1 (d_tcmp (op_neM (hu65 hr)) k_ne (d_fld "count" (d_var (pv 2)) rfl) (d_op op_addA k_add (d_var (pv 10)) (d_int pe_int)) (nomark _))))) (y_one (y_ret (d_bl pe_bl))) y_nil)
  (y_cons (y_asg (d_ix (d_meth0 (d_var (pv 2)) T.cl_Memory T.m_Memory__log G_Memory_log (hr.mono (by decide)) b_Memory_log) (d_neg (d_int pe_int)) (fun _ _ => rfl)) (g_tup rfl (g_cons (g_name (pg_name (i := 11) nd rfl (Or.inl rfl))) (g_cons (g_name (pg_name (i := 12) nd rfl (Or.inl rfl))) (g_cons (g_name (pg_name (i := 13) nd rfl (Or.inl rfl))) (g_cons (g_name (pg_name (i := 14) nd rfl (Or.inl rfl))) g_nil))))))
  (y_cons (y_if (PW.pt (d_or (d_tcmp (op_neM (hu65 hr)) k_ne (d_var (pv 12)) (d_tup (d_cons (d_str "device" pe_str so_3) (d_cons (d_int pe_int) d_nil))) (nomark _)) (d_or1 (d_tcmp (op_neM (hu65 hr)) k_ne (d_var (pv 13)) (d_var (pv 9)) (nomark _))))) (y_one (y_ret (d_bl pe_bl))) y_nil)
  (y_cons (y_drop (d_call G_law_behind (hr.mono (by decide)) rfl T.g__law_behind kp_law_behind b_law_behind (fun σ => passAt (takes_of rfl rfl rfl rfl) σ) (d_cons (d_var (pv 4)) (d_cons (d_var (pv 8)) (d_cons (d_var (pv 13)) (d_cons (d_var (pv 14)) d_nil))))))
  (y_cons (y_if (d_tcmp (op_neM (hu65 hr)) k_ne (d_meth0 (d_var (pv 3)) T.cl_Device T.m_Device__jobs G_Device_jobs (hr.mono (by decide)) b_Device_jobs) (d_lc (pe_lc (own := [("_law_job", 15)]) (g := gName 15) (tt := rdT K W0 (xYes)) (te := rdE K W0 (xOp aGet (xVar 15) (xC (.str "entry")))) rfl nd (i_l (d_dget (hu_of hr) (d_var (pv 4)) (d_str "jobs" pe_str so_4) (fun _ _ => rfl))) (blkOk_by (own := [("_law_job", 15)]) (N := N_law) (sc := defScope s_law) (by decide +kernel)) (fun _ _ _ _ _ => pg_name (i := 15) nd rfl (Or.inl rfl)) (fun _ _ _ _ _ => d_yes) (fun _ _ _ _ _ => (d_dget (hu_of hr) (d_var (pv 15)) (d_str "entry" pe_str so_5) (fun _ _ => rfl)))) (tg_name 15)) (nomark _)) (y_one (y_ret (d_bl pe_bl))) y_nil)
  (y_one (y_if (d_tcmp (op_neM (hu65 hr)) k_ne (d_tup (d_cons (d_fld "generation" (d_var (pv 3)) rfl) (d_cons (d_fld "taken" (d_var (pv 3)) rfl) (d_cons (d_fld "completed" (d_var (pv 3)) rfl) d_nil)))) (d_tup (d_cons (d_dget (hu_of hr) (d_var (pv 4)) (d_str "generation" pe_str so_2) (fun _ _ => rfl)) (d_cons (d_dget (hu_of hr) (d_var (pv 4)) (d_str "taken" pe_str so_6) (fun _ _ => rfl)) (d_cons (d_dget (hu_of hr) (d_var (pv 4)) (d_str "done" pe_str so_0) (fun _ _ => rfl)) d_nil)))) (nomark _)) (y_one (y_ret (d_bl pe_bl))) y_nil)))))))))))))))
  (y_one (y_ret (d_bl pe_bl))))))))))
end
def dd_frame_cell : He.DefD := ⟨("frame_cell", none), "frame_cell", "frame_cell", defArgs s_frame_cell, defBody s_frame_cell, defScope s_frame_cell, [], []⟩
def dd_table_word : He.DefD := ⟨("table_word", none), "table_word", "table_word", defArgs s_table_word, defBody s_table_word, defScope s_table_word, [], []⟩
def dd_first_values : He.DefD := ⟨("first_values", none), "first_values", "first_values", defArgs s_first_values, defBody s_first_values, defScope s_first_values, [], []⟩
def dd_Guard_init : He.DefD := ⟨("Guard", some "__init__"), "__init__", "Guard.__init__", defArgs s_Guard_init, defBody s_Guard_init, defScope s_Guard_init, [], []⟩
def dd_Memory_init : He.DefD := ⟨("Memory", some "__init__"), "__init__", "Memory.__init__", defArgs s_Memory_init, defBody s_Memory_init, defScope s_Memory_init, [], []⟩
def dd_Device_init : He.DefD := ⟨("Device", some "__init__"), "__init__", "Device.__init__", defArgs s_Device_init, defBody s_Device_init, defScope s_Device_init, [], []⟩
def dd_is_within : He.DefD := ⟨("is_within", none), "is_within", "is_within", defArgs s_is_within, defBody s_is_within, defScope s_is_within, [], []⟩
def dd_Memory_check_actor : He.DefD := ⟨("Memory", some "check_actor"), "check_actor", "Memory.check_actor", defArgs s_Memory_check_actor, defBody s_Memory_check_actor, defScope s_Memory_check_actor, [], []⟩
def dd_Memory_check_cell : He.DefD := ⟨("Memory", some "check_cell"), "check_cell", "Memory.check_cell", defArgs s_Memory_check_cell, defBody s_Memory_check_cell, defScope s_Memory_check_cell, [], []⟩
def dd_doorbell : He.DefD := ⟨("doorbell", none), "doorbell", "doorbell", defArgs s_doorbell, defBody s_doorbell, defScope s_doorbell, [], []⟩
def dd_interrupt : He.DefD := ⟨("interrupt", none), "interrupt", "interrupt", defArgs s_interrupt, defBody s_interrupt, defScope s_interrupt, [], []⟩
def dd_is_register : He.DefD := ⟨("is_register", none), "is_register", "is_register", defArgs s_is_register, defBody s_is_register, defScope s_is_register, [], []⟩
def dd_acknowledge : He.DefD := ⟨("acknowledge", none), "acknowledge", "acknowledge", defArgs s_acknowledge, defBody s_acknowledge, defScope s_acknowledge, [], []⟩
def dd_is_of_driver : He.DefD := ⟨("is_of_driver", none), "is_of_driver", "is_of_driver", defArgs s_is_of_driver, defBody s_is_of_driver, defScope s_is_of_driver, [], []⟩
def dd_Memory_check_block : He.DefD := ⟨("Memory", some "check_block"), "check_block", "Memory.check_block", defArgs s_Memory_check_block, defBody s_Memory_check_block, defScope s_Memory_check_block, [], []⟩
def dd_Memory_check_request : He.DefD := ⟨("Memory", some "check_request"), "check_request", "Memory.check_request", defArgs s_Memory_check_request, defBody s_Memory_check_request, defScope s_Memory_check_request, [], []⟩
def dd_Guard_command : He.DefD := ⟨("Guard", some "command"), "command", "Guard.command", defArgs s_Guard_command, defBody s_Guard_command, defScope s_Guard_command, [], []⟩
def dd_Guard_drop : He.DefD := ⟨("Guard", some "drop"), "drop", "Guard.drop", defArgs s_Guard_drop, defBody s_Guard_drop, defScope s_Guard_drop, [], []⟩
def dd_Memory_drop : He.DefD := ⟨("Memory", some "drop"), "drop", "Memory.drop", defArgs s_Memory_drop, defBody s_Memory_drop, defScope s_Memory_drop, [], []⟩
def dd_is_word : He.DefD := ⟨("is_word", none), "is_word", "is_word", defArgs s_is_word, defBody s_is_word, defScope s_is_word, [], []⟩
def dd_Guard_use : He.DefD := ⟨("Guard", some "use"), "use", "Guard.use", defArgs s_Guard_use, defBody s_Guard_use, defScope s_Guard_use, [], []⟩
def dd_Memory_dma_read : He.DefD := ⟨("Memory", some "dma_read"), "dma_read", "Memory.dma_read", defArgs s_Memory_dma_read, defBody s_Memory_dma_read, defScope s_Memory_dma_read, [], []⟩
def dd_Memory_dma_write : He.DefD := ⟨("Memory", some "dma_write"), "dma_write", "Memory.dma_write", defArgs s_Memory_dma_write, defBody s_Memory_dma_write, defScope s_Memory_dma_write, [], []⟩
def dd_Memory_device_result : He.DefD := ⟨("Memory", some "device_result"), "device_result", "Memory.device_result", defArgs s_Memory_device_result, defBody s_Memory_device_result, defScope s_Memory_device_result, [], []⟩
def dd_Memory_result : He.DefD := ⟨("Memory", some "result"), "result", "Memory.result", defArgs s_Memory_result, defBody s_Memory_result, defScope s_Memory_result, [], []⟩
def dd_Memory_access : He.DefD := ⟨("Memory", some "access"), "access", "Memory.access", defArgs s_Memory_access, defBody s_Memory_access, defScope s_Memory_access, [], []⟩
def dd_law_driver : He.DefD := ⟨("_law_driver", none), "_law_driver", "_law_driver", defArgs s_law_driver, defBody s_law_driver, defScope s_law_driver, [], []⟩
def dd_law_begin : He.DefD := ⟨("_law_begin", none), "_law_begin", "_law_begin", defArgs s_law_begin, defBody s_law_begin, defScope s_law_begin, [], []⟩
def dd_law_next : He.DefD := ⟨("_law_next", none), "_law_next", "_law_next", defArgs s_law_next, defBody s_law_next, defScope s_law_next, [], []⟩
def dd_law_describe : He.DefD := ⟨("_law_describe", none), "_law_describe", "_law_describe", defArgs s_law_describe, defBody s_law_describe, defScope s_law_describe, [], []⟩
def dd_reset : He.DefD := ⟨("reset", none), "reset", "reset", defArgs s_reset, defBody s_reset, defScope s_reset, [], []⟩
def dd_law_wish : He.DefD := ⟨("_law_wish", none), "_law_wish", "_law_wish", defArgs s_law_wish, defBody s_law_wish, defScope s_law_wish, [], []⟩
def dd_Device_access : He.DefD := ⟨("Device", some "access"), "access", "Device.access", defArgs s_Device_access, defBody s_Device_access, defScope s_Device_access, [], []⟩
def dd_ready : He.DefD := ⟨("ready", none), "ready", "ready", defArgs s_ready, defBody s_ready, defScope s_ready, [], []⟩
def dd_Device_look_for_reset : He.DefD := ⟨("Device", some "look_for_reset"), "look_for_reset", "Device.look_for_reset", defArgs s_Device_look_for_reset, defBody s_Device_look_for_reset, defScope s_Device_look_for_reset, [], []⟩
def dd_buffer_page : He.DefD := ⟨("buffer_page", none), "buffer_page", "buffer_page", defArgs s_buffer_page, defBody s_buffer_page, defScope s_buffer_page, [], []⟩
def dd_Device_drop : He.DefD := ⟨("Device", some "drop"), "drop", "Device.drop", defArgs s_Device_drop, defBody s_Device_drop, defScope s_Device_drop, [], []⟩
def dd_Device_read_cell : He.DefD := ⟨("Device", some "read_cell"), "read_cell", "Device.read_cell", defArgs s_Device_read_cell, defBody s_Device_read_cell, defScope s_Device_read_cell, [], []⟩
def dd_Device_decide : He.DefD := ⟨("Device", some "decide"), "decide", "Device.decide", defArgs s_Device_decide, defBody s_Device_decide, defScope s_Device_decide, [], []⟩
def dd_Device_write_cell : He.DefD := ⟨("Device", some "write_cell"), "write_cell", "Device.write_cell", defArgs s_Device_write_cell, defBody s_Device_write_cell, defScope s_Device_write_cell, [], []⟩
def dd_is_count : He.DefD := ⟨("is_count", none), "is_count", "is_count", defArgs s_is_count, defBody s_is_count, defScope s_is_count, [], []⟩
def dd_phase_of : He.DefD := ⟨("phase_of", none), "phase_of", "phase_of", defArgs s_phase_of, defBody s_phase_of, defScope s_phase_of, [], []⟩
def dd_completion : He.DefD := ⟨("completion", none), "completion", "completion", defArgs s_completion, defBody s_completion, defScope s_completion, [], []⟩
def dd_slot_of : He.DefD := ⟨("slot_of", none), "slot_of", "slot_of", defArgs s_slot_of, defBody s_slot_of, defScope s_slot_of, [], []⟩
def dd_Device_complete : He.DefD := ⟨("Device", some "complete"), "complete", "Device.complete", defArgs s_Device_complete, defBody s_Device_complete, defScope s_Device_complete, [], []⟩
def dd_Device_go_on : He.DefD := ⟨("Device", some "go_on"), "go_on", "Device.go_on", defArgs s_Device_go_on, defBody s_Device_go_on, defScope s_Device_go_on, [], []⟩
def dd_are_parts : He.DefD := ⟨("are_parts", none), "are_parts", "are_parts", defArgs s_are_parts, defBody s_are_parts, defScope s_are_parts, [], []⟩
def dd_is_new_descriptor : He.DefD := ⟨("is_new_descriptor", none), "is_new_descriptor", "is_new_descriptor", defArgs s_is_new_descriptor, defBody s_is_new_descriptor, defScope s_is_new_descriptor, [], []⟩
def dd_Job_init : He.DefD := ⟨("Job", some "__init__"), "__init__", "Job.__init__", defArgs s_Job_init, defBody s_Job_init, defScope s_Job_init, [], []⟩
def dd_Device_look_for_descriptor : He.DefD := ⟨("Device", some "look_for_descriptor"), "look_for_descriptor", "Device.look_for_descriptor", defArgs s_Device_look_for_descriptor, defBody s_Device_look_for_descriptor, defScope s_Device_look_for_descriptor, [], []⟩
def dd_Device_step : He.DefD := ⟨("Device", some "step"), "step", "Device.step", defArgs s_Device_step, defBody s_Device_step, defScope s_Device_step, [], []⟩
def dd_Memory_log : He.DefD := ⟨("Memory", some "log"), "log", "Memory.log", defArgs s_Memory_log, defBody s_Memory_log, defScope s_Memory_log, [], []⟩
def dd_law_taken : He.DefD := ⟨("_law_taken", none), "_law_taken", "_law_taken", defArgs s_law_taken, defBody s_law_taken, defScope s_law_taken, [], []⟩
def dd_law_moved : He.DefD := ⟨("_law_moved", none), "_law_moved", "_law_moved", defArgs s_law_moved, defBody s_law_moved, defScope s_law_moved, [], []⟩
def dd_law_behind : He.DefD := ⟨("_law_behind", none), "_law_behind", "_law_behind", defArgs s_law_behind, defBody s_law_behind, defScope s_law_behind, [], []⟩
def dd_Device_jobs : He.DefD := ⟨("Device", some "jobs"), "jobs", "Device.jobs", defArgs s_Device_jobs, defBody s_Device_jobs, defScope s_Device_jobs, [], []⟩
def dd_law : He.DefD := ⟨("law", none), "law", "law", defArgs s_law, defBody s_law, defScope s_law, [], []⟩
def fn : List He.DefD := [dd_frame_cell, dd_table_word, dd_first_values, dd_Guard_init, dd_Memory_init, dd_Device_init, dd_is_within, dd_Memory_check_actor, dd_Memory_check_cell, dd_doorbell, dd_interrupt, dd_is_register, dd_acknowledge, dd_is_of_driver, dd_Memory_check_block, dd_Memory_check_request, dd_Guard_command, dd_Guard_drop, dd_Memory_drop, dd_is_word, dd_Guard_use, dd_Memory_dma_read, dd_Memory_dma_write, dd_Memory_device_result, dd_Memory_result, dd_Memory_access, dd_law_driver, dd_law_begin, dd_law_next, dd_law_describe, dd_reset, dd_law_wish, dd_Device_access, dd_ready, dd_Device_look_for_reset, dd_buffer_page, dd_Device_drop, dd_Device_read_cell, dd_Device_decide, dd_Device_write_cell, dd_is_count, dd_phase_of, dd_completion, dd_slot_of, dd_Device_complete, dd_Device_go_on, dd_are_parts, dd_is_new_descriptor, dd_Job_init, dd_Device_look_for_descriptor, dd_Device_step, dd_Memory_log, dd_law_taken, dd_law_moved, dd_law_behind, dd_Device_jobs, dd_law]
def fa : List He.Fa := [.free "abs", .free "bool", .free "int", .free "isinstance", .free "len", .free "list", .free "range", .free "str", .free "tuple", .int "ALL_CELLS" 70, .int "BLOCKS" 8, .int "CELLS" 4, .int "COMPLETIONS" 1, .int "DEVICES" 2, .int "FIRST_ACKNOWLEDGE" 68, .int "FIRST_BUFFER" 2, .int "FIRST_REGISTER" 48, .int "FIRST_WORD" 56, .int "FRAMES" 6, .int "MOST_BLOCK" 7, .int "MOST_JOBS" 2, .int "PAGES" 6, .int "REGISTERS" 4, .int "RING_FRAMES" 2, .int "SLOTS" 4, .int "SUBMISSIONS" 0, .int "TAGS" 4, .cls "Device", .cls "Guard", .cls "Job", .cls "Memory", .glo "Device", .glo "Guard", .glo "Job", .glo "KINDS", .glo "Memory", .glo "RIGHTS", .glo "_law_begin", .glo "_law_behind", .glo "_law_describe", .glo "_law_driver", .glo "_law_moved", .glo "_law_next", .glo "_law_taken", .glo "_law_wish", .glo "acknowledge", .glo "are_parts", .glo "buffer_page", .glo "completion", .glo "doorbell", .glo "first_values", .glo "frame_cell", .glo "interrupt", .glo "is_count", .glo "is_new_descriptor", .glo "is_of_driver", .glo "is_register", .glo "is_within", .glo "is_word", .glo "phase_of", .glo "ready", .glo "reset", .glo "slot_of", .glo "table_word", .meth "Device" "access", .meth "Device" "complete", .meth "Device" "decide", .meth "Device" "drop", .meth "Device" "go_on", .meth "Device" "jobs", .meth "Device" "look_for_descriptor", .meth "Device" "look_for_reset", .meth "Device" "read_cell", .meth "Device" "step", .meth "Device" "write_cell", .meth "Guard" "command", .meth "Guard" "drop", .meth "Guard" "use", .meth "Memory" "access", .meth "Memory" "check_actor", .meth "Memory" "check_block", .meth "Memory" "check_cell", .meth "Memory" "check_request", .meth "Memory" "device_result", .meth "Memory" "dma_read", .meth "Memory" "dma_write", .meth "Memory" "drop", .meth "Memory" "log", .meth "Memory" "result", .mkr "Device", .mkr "Guard", .mkr "Job", .mkr "Memory", .noat "Device" "completed", .noat "Device" "device", .noat "Device" "generation", .noat "Device" "memory", .noat "Device" "pending", .noat "Device" "taken", .noat "Device" "under_way", .noat "Guard" "kept", .noat "Guard" "tickets", .noat "Guard" "waiting", .noat "Job" "block", .noat "Job" "content", .noat "Job" "descriptor", .noat "Job" "is_decided", .noat "Job" "kind", .noat "Job" "moved", .noat "Job" "sequence", .noat "Job" "tag", .noat "Memory" "count", .noat "Memory" "guards", .noat "Memory" "held", .noat "Memory" "journals", .noat "Memory" "rows", .noat "Memory" "stored", .glo "SHAPES", .glo "NotValid", .exc "NotValid", .glo "law"]
def ex : PySem.W.Frag → Bool := fun K => excCB K "NotValid" && (He.tupB K "KINDS" [.str "read", .str "write"] && (He.tupB K "RIGHTS" [.str "r", .str "w"]))
abbrev R : PySem.W.OpenRow := PySem.W.OpenLaw.row PySem.Challenge.rw_ringbound_k19_honest_devices_step_by_ste
abbrev hk : PySem.W.Hook := hookS 4 fa fn ex
def ob (s : PySem.W.SharedT) : AlS := obsS 4 fa fn ex (HandSHeadRun.getT s)
theorem ob_eq (s : PySem.W.SharedT) : ob s = hk.obs s.abs := obsS_eq (HandSHeadRun.getT_eq s)
def names : List PySem.Str := (["_wall", "DEVICES", "PAGES", "FRAMES", "CELLS", "RIGHTS", "is_within", "is_word", "Guard", "RingError", "NotValid", "BLOCKS", "REGISTERS", "RING_FRAMES", "FIRST_REGISTER", "FIRST_WORD", "FIRST_ACKNOWLEDGE", "ALL_CELLS", "SHAPES", "frame_cell", "doorbell", "reset", "ready", "interrupt", "table_word", "acknowledge", "is_register", "is_of_driver", "first_values", "Memory"] : List PySem.Str) ++ (["SLOTS", "TAGS", "SUBMISSIONS", "COMPLETIONS", "FIRST_BUFFER", "MOST_BLOCK", "KINDS", "buffer_page", "slot_of", "phase_of", "is_count", "are_parts", "completion", "is_new_descriptor", "MOST_JOBS", "Job", "Device", "_law_next", "_law_driver", "_law_begin", "_law_describe", "_law_wish", "_law_behind", "_law_taken", "_law_moved"] : List PySem.Str)
theorem run_false (w : World) : RbH.RunX R (PySem.W.view R.prog [61]) hk ob 4000 400000 21 names (w.withFollow "special-get-raises" false) := by
  intro os
  kernel_rfl
theorem run_true (w : World) : RbH.RunX R (PySem.W.view R.prog [61]) hk ob 4000 400000 21 names (w.withFollow "special-get-raises" true) := by
  intro os
  kernel_rfl
theorem run (w : World) : RbH.RunX R (PySem.W.view R.prog [61]) hk ob 4000 400000 21 names w := PySem.W.byRow2 "special-get-raises" (P := fun w => RbH.RunX R (PySem.W.view R.prog [61]) hk ob 4000 400000 21 names w) run_false run_true w
theorem facts {P : Program} {w : World} {K : PySem.W.Frag} {h : Heap} {mg : Str → Option Value} {f : Addr} (X : K.In h) (G : h.Ns mainGlobals mg) (hfa : mg ("law" : Str) = some (.ref f)) (c : He.SaysD fa fn K) (hex : ex K = true) (hsh : shObs K = shVal w) :
    ∃ fd : FuncData, (∀ (s : Shared) (v : Value), BindsTo s fd ⟨[v], []⟩ [("_law_script", v)]) ∧ ∀ base : Heap, K.In base → base.Ns mainGlobals mg → FnOk P w K mg base (L2.CX P w) 11 f fd ["_law_script"] (spA K a_law) := by
  have e := hfa.symm.trans (He.glo_ok X G (c.fact 120 rfl))
  cases e
  have T : Tx P w K mg := ⟨He.free_ok X G (c.fact 0 rfl), He.free_ok X G (c.fact 1 rfl), He.free_ok X G (c.fact 2 rfl), He.free_ok X G (c.fact 3 rfl), He.free_ok X G (c.fact 4 rfl), He.free_ok X G (c.fact 5 rfl), He.free_ok X G (c.fact 6 rfl), He.free_ok X G (c.fact 7 rfl), He.free_ok X G (c.fact 8 rfl), He.int_ok X G (c.fact 9 rfl), He.int_ok X G (c.fact 10 rfl), He.int_ok X G (c.fact 11 rfl), He.int_ok X G (c.fact 12 rfl), He.int_ok X G (c.fact 13 rfl), He.int_ok X G (c.fact 14 rfl), He.int_ok X G (c.fact 15 rfl), He.int_ok X G (c.fact 16 rfl), He.int_ok X G (c.fact 17 rfl), He.int_ok X G (c.fact 18 rfl), He.int_ok X G (c.fact 19 rfl), He.int_ok X G (c.fact 20 rfl), He.int_ok X G (c.fact 21 rfl), He.int_ok X G (c.fact 22 rfl), He.int_ok X G (c.fact 23 rfl), He.int_ok X G (c.fact 24 rfl), He.int_ok X G (c.fact 25 rfl), He.int_ok X G (c.fact 26 rfl), He.cls_ok (c.fact 27 rfl), He.cls_ok (c.fact 28 rfl), He.cls_ok (c.fact 29 rfl), He.cls_ok (c.fact 30 rfl), He.glo_ok X G (c.fact 31 rfl), He.glo_ok X G (c.fact 32 rfl), He.glo_ok X G (c.fact 33 rfl), He.glo_ok X G (c.fact 34 rfl), He.glo_ok X G (c.fact 35 rfl), He.glo_ok X G (c.fact 36 rfl), He.glo_ok X G (c.fact 37 rfl), He.glo_ok X G (c.fact 38 rfl), He.glo_ok X G (c.fact 39 rfl), He.glo_ok X G (c.fact 40 rfl), He.glo_ok X G (c.fact 41 rfl), He.glo_ok X G (c.fact 42 rfl), He.glo_ok X G (c.fact 43 rfl), He.glo_ok X G (c.fact 44 rfl), He.glo_ok X G (c.fact 45 rfl), He.glo_ok X G (c.fact 46 rfl), He.glo_ok X G (c.fact 47 rfl), He.glo_ok X G (c.fact 48 rfl), He.glo_ok X G (c.fact 49 rfl), He.glo_ok X G (c.fact 50 rfl), He.glo_ok X G (c.fact 51 rfl), He.glo_ok X G (c.fact 52 rfl), He.glo_ok X G (c.fact 53 rfl), He.glo_ok X G (c.fact 54 rfl), He.glo_ok X G (c.fact 55 rfl), He.glo_ok X G (c.fact 56 rfl), He.glo_ok X G (c.fact 57 rfl), He.glo_ok X G (c.fact 58 rfl), He.glo_ok X G (c.fact 59 rfl), He.glo_ok X G (c.fact 60 rfl), He.glo_ok X G (c.fact 61 rfl), He.glo_ok X G (c.fact 62 rfl), He.glo_ok X G (c.fact 63 rfl), He.meth_ok (c.fact 64 rfl), He.meth_ok (c.fact 65 rfl), He.meth_ok (c.fact 66 rfl), He.meth_ok (c.fact 67 rfl), He.meth_ok (c.fact 68 rfl), He.meth_ok (c.fact 69 rfl), He.meth_ok (c.fact 70 rfl), He.meth_ok (c.fact 71 rfl), He.meth_ok (c.fact 72 rfl), He.meth_ok (c.fact 73 rfl), He.meth_ok (c.fact 74 rfl), He.meth_ok (c.fact 75 rfl), He.meth_ok (c.fact 76 rfl), He.meth_ok (c.fact 77 rfl), He.meth_ok (c.fact 78 rfl), He.meth_ok (c.fact 79 rfl), He.meth_ok (c.fact 80 rfl), He.meth_ok (c.fact 81 rfl), He.meth_ok (c.fact 82 rfl), He.meth_ok (c.fact 83 rfl), He.meth_ok (c.fact 84 rfl), He.meth_ok (c.fact 85 rfl), He.meth_ok (c.fact 86 rfl), He.meth_ok (c.fact 87 rfl), He.meth_ok (c.fact 88 rfl), He.mkr_ok (c.fact 89 rfl), He.mkr_ok (c.fact 90 rfl), He.mkr_ok (c.fact 91 rfl), He.mkr_ok (c.fact 92 rfl), He.noat_ok (c.fact 93 rfl), He.noat_ok (c.fact 94 rfl), He.noat_ok (c.fact 95 rfl), He.noat_ok (c.fact 96 rfl), He.noat_ok (c.fact 97 rfl), He.noat_ok (c.fact 98 rfl), He.noat_ok (c.fact 99 rfl), He.noat_ok (c.fact 100 rfl), He.noat_ok (c.fact 101 rfl), He.noat_ok (c.fact 102 rfl), He.noat_ok (c.fact 103 rfl), He.noat_ok (c.fact 104 rfl), He.noat_ok (c.fact 105 rfl), He.noat_ok (c.fact 106 rfl), He.noat_ok (c.fact 107 rfl), He.noat_ok (c.fact 108 rfl), He.noat_ok (c.fact 109 rfl), He.noat_ok (c.fact 110 rfl), He.noat_ok (c.fact 111 rfl), He.noat_ok (c.fact 112 rfl), He.noat_ok (c.fact 113 rfl), He.noat_ok (c.fact 114 rfl), He.noat_ok (c.fact 115 rfl), He.noat_ok (c.fact 116 rfl), shapes_of (He.glo_ok X G (c.fact 117 rfl)) hsh, vtup (He.ba (He.ba hex).2).1 (fun φ H => .cons (.str "read" so_10) (.cons (.str "write" so_1) (.nil))), vtup (He.ba (He.ba hex).2).2 (fun φ H => .cons (.str "r" so_7) (.cons (.str "w" so_8) (.nil))), xOk_of (He.glo_ok X G (c.fact 118 rfl)) (c.fact 119 rfl)⟩
  have ok_frame_cell : ∀ base : Heap, Okd P w K mg base 1 (He.fAd K ("frame_cell", none)) ["device", "frame", "index"] (spA K a_frame_cell) := fun base => Ra19.ok_frame_cell T (c.def_ 0 (d := dd_frame_cell) rfl) 
  have ok_table_word : ∀ base : Heap, Okd P w K mg base 1 (He.fAd K ("table_word", none)) ["device", "page"] (spA K a_table_word) := fun base => Ra19.ok_table_word T (c.def_ 1 (d := dd_table_word) rfl) 
  have ok_first_values : ∀ base : Heap, Okd P w K mg base 2 (He.fAd K ("first_values", none)) [] (spA K a_first_values) := fun base => Ra19.ok_first_values T (c.def_ 2 (d := dd_first_values) rfl) (ok_frame_cell base) (ok_table_word base)
  have ok_Guard_init : ∀ base : Heap, Okd P w K mg base 1 (He.fAd K ("Guard", some "__init__")) ["self"] (spA K a_Guard_init) := fun base => Ra19.ok_Guard_init T (c.def_ 3 (d := dd_Guard_init) rfl) 
  have ok_Memory_init : ∀ base : Heap, Okd P w K mg base 3 (He.fAd K ("Memory", some "__init__")) ["self"] (spA K a_Memory_init) := fun base => Ra19.ok_Memory_init T (c.def_ 4 (d := dd_Memory_init) rfl) (ok_first_values base) (ok_Guard_init base)
  have ok_Device_init : ∀ base : Heap, Okd P w K mg base 1 (He.fAd K ("Device", some "__init__")) ["self", "memory", "device"] (spA K a_Device_init) := fun base => Ra19.ok_Device_init T (c.def_ 5 (d := dd_Device_init) rfl) 
  have ok_is_within : ∀ base : Heap, Okd P w K mg base 1 (He.fAd K ("is_within", none)) ["value", "low", "high"] (spA K a_is_within) := fun base => Ra19.ok_is_within T (c.def_ 6 (d := dd_is_within) rfl) 
  have ok_Memory_check_actor : ∀ base : Heap, Okd P w K mg base 2 (He.fAd K ("Memory", some "check_actor")) ["self", "actor", "request"] (spA K a_Memory_check_actor) := fun base => Ra19.ok_Memory_check_actor T (c.def_ 7 (d := dd_Memory_check_actor) rfl) (ok_is_within base)
  have ok_Memory_check_cell : ∀ base : Heap, Okd P w K mg base 2 (He.fAd K ("Memory", some "check_cell")) ["self", "cell"] (spA K a_Memory_check_cell) := fun base => Ra19.ok_Memory_check_cell T (c.def_ 8 (d := dd_Memory_check_cell) rfl) (ok_is_within base)
  have ok_doorbell : ∀ base : Heap, Okd P w K mg base 1 (He.fAd K ("doorbell", none)) ["device"] (spA K a_doorbell) := fun base => Ra19.ok_doorbell T (c.def_ 9 (d := dd_doorbell) rfl) 
  have ok_interrupt : ∀ base : Heap, Okd P w K mg base 2 (He.fAd K ("interrupt", none)) ["device"] (spA K a_interrupt) := fun base => Ra19.ok_interrupt T (c.def_ 10 (d := dd_interrupt) rfl) (ok_doorbell base)
  have ok_is_register : ∀ base : Heap, Okd P w K mg base 3 (He.fAd K ("is_register", none)) ["device", "cell"] (spA K a_is_register) := fun base => Ra19.ok_is_register T (c.def_ 11 (d := dd_is_register) rfl) (ok_doorbell base) (ok_interrupt base)
  have ok_acknowledge : ∀ base : Heap, Okd P w K mg base 1 (He.fAd K ("acknowledge", none)) ["device"] (spA K a_acknowledge) := fun base => Ra19.ok_acknowledge T (c.def_ 12 (d := dd_acknowledge) rfl) 
  have ok_is_of_driver : ∀ base : Heap, Okd P w K mg base 4 (He.fAd K ("is_of_driver", none)) ["device", "cell"] (spA K a_is_of_driver) := fun base => Ra19.ok_is_of_driver T (c.def_ 13 (d := dd_is_of_driver) rfl) (ok_frame_cell base) (ok_is_register base) (ok_table_word base) (ok_acknowledge base)
  have ok_Memory_check_block : ∀ base : Heap, Okd P w K mg base 2 (He.fAd K ("Memory", some "check_block")) ["self", "block"] (spA K a_Memory_check_block) := fun base => Ra19.ok_Memory_check_block T (c.def_ 14 (d := dd_Memory_check_block) rfl) (ok_is_within base)
  have ok_Memory_check_request : ∀ base : Heap, Okd P w K mg base 5 (He.fAd K ("Memory", some "check_request")) ["self", "actor", "request"] (spA K a_Memory_check_request) := fun base => Ra19.ok_Memory_check_request T (c.def_ 15 (d := dd_Memory_check_request) rfl) (ok_Memory_check_cell base) (ok_is_of_driver base) (ok_is_register base) (ok_is_within base) (ok_Memory_check_block base)
  have ok_Guard_command : ∀ base : Heap, Okd P w K mg base 1 (He.fAd K ("Guard", some "command")) ["self", "page"] (spA K a_Guard_command) := fun base => Ra19.ok_Guard_command T (c.def_ 16 (d := dd_Guard_command) rfl) 
  have ok_Guard_drop : ∀ base : Heap, Okd P w K mg base 1 (He.fAd K ("Guard", some "drop")) ["self"] (spA K a_Guard_drop) := fun base => Ra19.ok_Guard_drop T (c.def_ 17 (d := dd_Guard_drop) rfl) 
  have ok_Memory_drop : ∀ base : Heap, Okd P w K mg base 2 (He.fAd K ("Memory", some "drop")) ["self", "device"] (spA K a_Memory_drop) := fun base => Ra19.ok_Memory_drop T (c.def_ 18 (d := dd_Memory_drop) rfl) (ok_Guard_drop base) (ok_acknowledge base)
  have ok_is_word : ∀ base : Heap, Okd P w K mg base 2 (He.fAd K ("is_word", none)) ["value"] (spA K a_is_word) := fun base => Ra19.ok_is_word T (c.def_ 19 (d := dd_is_word) rfl) (ok_is_within base)
  have ok_Guard_use : ∀ base : Heap, Okd P w K mg base 1 (He.fAd K ("Guard", some "use")) ["self", "page", "right", "word"] (spA K a_Guard_use) := fun base => Ra19.ok_Guard_use T (c.def_ 20 (d := dd_Guard_use) rfl) 
  have ok_Memory_dma_read : ∀ base : Heap, Okd P w K mg base 2 (He.fAd K ("Memory", some "dma_read")) ["self", "device", "frame", "index"] (spA K a_Memory_dma_read) := fun base => Ra19.ok_Memory_dma_read T (c.def_ 21 (d := dd_Memory_dma_read) rfl) (ok_frame_cell base)
  have ok_Memory_dma_write : ∀ base : Heap, Okd P w K mg base 2 (He.fAd K ("Memory", some "dma_write")) ["self", "device", "frame", "index", "value"] (spA K a_Memory_dma_write) := fun base => Ra19.ok_Memory_dma_write T (c.def_ 22 (d := dd_Memory_dma_write) rfl) (ok_frame_cell base)
  have ok_Memory_device_result : ∀ base : Heap, Okd P w K mg base 3 (He.fAd K ("Memory", some "device_result")) ["self", "device", "request"] (spA K a_Memory_device_result) := fun base => Ra19.ok_Memory_device_result T (c.def_ 23 (d := dd_Memory_device_result) rfl) (ok_table_word base) (ok_is_word base) (ok_Guard_use base) (ok_Memory_dma_read base) (ok_Memory_dma_write base)
  have ok_Memory_result : ∀ base : Heap, Okd P w K mg base 4 (He.fAd K ("Memory", some "result")) ["self", "device", "request"] (spA K a_Memory_result) := fun base => Ra19.ok_Memory_result T (c.def_ 24 (d := dd_Memory_result) rfl) (ok_Guard_command base) (ok_Memory_drop base) (ok_Memory_device_result base)
  have ok_Memory_access : ∀ base : Heap, Okd P w K mg base 6 (He.fAd K ("Memory", some "access")) ["self", "actor", "request"] (spA K a_Memory_access) := fun base => Ra19.ok_Memory_access T (c.def_ 25 (d := dd_Memory_access) rfl) (ok_Memory_check_actor base) (ok_Memory_check_request base) (ok_Memory_result base)
  have ok_law_driver : ∀ base : Heap, Okd P w K mg base 7 (He.fAd K ("_law_driver", none)) ["_law_memory", "_law_request"] (spA K a_law_driver) := fun base => Ra19.ok_law_driver T (c.def_ 26 (d := dd_law_driver) rfl) (ok_Memory_access base)
  have ok_law_begin : ∀ base : Heap, Okd P w K mg base 8 (He.fAd K ("_law_begin", none)) ["_law_memory"] (spA K a_law_begin) := fun base => Ra19.ok_law_begin T (c.def_ 27 (d := dd_law_begin) rfl) (ok_law_driver base) (ok_table_word base)
  have ok_law_next : ∀ base : Heap, Okd P w K mg base 1 (He.fAd K ("_law_next", none)) ["_law_tape", "_law_many"] (spA K a_law_next) := fun base => Ra19.ok_law_next T (c.def_ 28 (d := dd_law_next) rfl) 
  have ok_law_describe : ∀ base : Heap, Okd P w K mg base 8 (He.fAd K ("_law_describe", none)) ["_law_tape", "_law_memory", "_law_number"] (spA K a_law_describe) := fun base => Ra19.ok_law_describe T (c.def_ 29 (d := dd_law_describe) rfl) (ok_law_next base) (ok_law_driver base) (ok_frame_cell base) (ok_table_word base) (ok_Memory_access base)
  have ok_reset : ∀ base : Heap, Okd P w K mg base 2 (He.fAd K ("reset", none)) ["device"] (spA K a_reset) := fun base => Ra19.ok_reset T (c.def_ 30 (d := dd_reset) rfl) (ok_doorbell base)
  have ok_law_wish : ∀ base : Heap, Okd P w K mg base 3 (He.fAd K ("_law_wish", none)) ["_law_own", "_law_choice"] (spA K a_law_wish) := fun base => Ra19.ok_law_wish T (c.def_ 31 (d := dd_law_wish) rfl) (ok_reset base)
  have ok_Device_access : ∀ base : Heap, Okd P w K mg base 7 (He.fAd K ("Device", some "access")) ["self", "request"] (spA K a_Device_access) := fun base => Ra19.ok_Device_access T (c.def_ 32 (d := dd_Device_access) rfl) (ok_Memory_access base)
  have ok_ready : ∀ base : Heap, Okd P w K mg base 2 (He.fAd K ("ready", none)) ["device"] (spA K a_ready) := fun base => Ra19.ok_ready T (c.def_ 33 (d := dd_ready) rfl) (ok_doorbell base)
  have ok_Device_look_for_reset : ∀ base : Heap, Okd P w K mg base 8 (He.fAd K ("Device", some "look_for_reset")) ["self"] (spA K a_Device_look_for_reset) := fun base => Ra19.ok_Device_look_for_reset T (c.def_ 34 (d := dd_Device_look_for_reset) rfl) (ok_Device_access base) (ok_reset base) (ok_ready base)
  have ok_buffer_page : ∀ base : Heap, Okd P w K mg base 1 (He.fAd K ("buffer_page", none)) ["tag"] (spA K a_buffer_page) := fun base => Ra19.ok_buffer_page T (c.def_ 35 (d := dd_buffer_page) rfl) 
  have ok_Device_drop : ∀ base : Heap, Okd P w K mg base 1 (He.fAd K ("Device", some "drop")) ["self", "job"] (spA K a_Device_drop) := fun base => Ra19.ok_Device_drop T (c.def_ 36 (d := dd_Device_drop) rfl) 
  have ok_Device_read_cell : ∀ base : Heap, Okd P w K mg base 8 (He.fAd K ("Device", some "read_cell")) ["self", "job"] (spA K a_Device_read_cell) := fun base => Ra19.ok_Device_read_cell T (c.def_ 37 (d := dd_Device_read_cell) rfl) (ok_Device_access base) (ok_buffer_page base) (ok_Device_drop base)
  have ok_Device_decide : ∀ base : Heap, Okd P w K mg base 8 (He.fAd K ("Device", some "decide")) ["self", "job"] (spA K a_Device_decide) := fun base => Ra19.ok_Device_decide T (c.def_ 38 (d := dd_Device_decide) rfl) (ok_Device_access base)
  have ok_Device_write_cell : ∀ base : Heap, Okd P w K mg base 8 (He.fAd K ("Device", some "write_cell")) ["self", "job"] (spA K a_Device_write_cell) := fun base => Ra19.ok_Device_write_cell T (c.def_ 39 (d := dd_Device_write_cell) rfl) (ok_Device_access base) (ok_buffer_page base) (ok_Device_drop base)
  have ok_is_count : ∀ base : Heap, Okd P w K mg base 1 (He.fAd K ("is_count", none)) ["value"] (spA K a_is_count) := fun base => Ra19.ok_is_count T (c.def_ 40 (d := dd_is_count) rfl) 
  have ok_phase_of : ∀ base : Heap, Okd P w K mg base 1 (He.fAd K ("phase_of", none)) ["number"] (spA K a_phase_of) := fun base => Ra19.ok_phase_of T (c.def_ 41 (d := dd_phase_of) rfl) 
  have ok_completion : ∀ base : Heap, Okd P w K mg base 2 (He.fAd K ("completion", none)) ["tag", "number"] (spA K a_completion) := fun base => Ra19.ok_completion T (c.def_ 42 (d := dd_completion) rfl) (ok_is_within base) (ok_is_count base) (ok_phase_of base)
  have ok_slot_of : ∀ base : Heap, Okd P w K mg base 1 (He.fAd K ("slot_of", none)) ["number"] (spA K a_slot_of) := fun base => Ra19.ok_slot_of T (c.def_ 43 (d := dd_slot_of) rfl) 
  have ok_Device_complete : ∀ base : Heap, Okd P w K mg base 8 (He.fAd K ("Device", some "complete")) ["self", "job"] (spA K a_Device_complete) := fun base => Ra19.ok_Device_complete T (c.def_ 44 (d := dd_Device_complete) rfl) (ok_Device_drop base) (ok_completion base) (ok_Device_access base) (ok_slot_of base) (ok_interrupt base)
  have ok_Device_go_on : ∀ base : Heap, Okd P w K mg base 9 (He.fAd K ("Device", some "go_on")) ["self", "job"] (spA K a_Device_go_on) := fun base => Ra19.ok_Device_go_on T (c.def_ 45 (d := dd_Device_go_on) rfl) (ok_Device_read_cell base) (ok_Device_decide base) (ok_Device_write_cell base) (ok_Device_complete base)
  have ok_are_parts : ∀ base : Heap, Okd P w K mg base 2 (He.fAd K ("are_parts", none)) ["tag", "kind", "block", "sequence"] (spA K a_are_parts) := fun base => Ra19.ok_are_parts T (c.def_ 46 (d := dd_are_parts) rfl) (ok_is_within base) (ok_is_count base)
  have ok_is_new_descriptor : ∀ base : Heap, Okd P w K mg base 3 (He.fAd K ("is_new_descriptor", none)) ["value", "number"] (spA K a_is_new_descriptor) := fun base => Ra19.ok_is_new_descriptor T (c.def_ 47 (d := dd_is_new_descriptor) rfl) (ok_are_parts base) (ok_is_within base) (ok_phase_of base)
  have ok_Job_init : ∀ base : Heap, Okd P w K mg base 1 (He.fAd K ("Job", some "__init__")) ["self", "descriptor"] (spA K a_Job_init) := fun base => Ra19.ok_Job_init T (c.def_ 48 (d := dd_Job_init) rfl) 
  have ok_Device_look_for_descriptor : ∀ base : Heap, Okd P w K mg base 8 (He.fAd K ("Device", some "look_for_descriptor")) ["self"] (spA K a_Device_look_for_descriptor) := fun base => Ra19.ok_Device_look_for_descriptor T (c.def_ 49 (d := dd_Device_look_for_descriptor) rfl) (ok_Device_access base) (ok_slot_of base) (ok_is_new_descriptor base) (ok_Job_init base)
  have ok_Device_step : ∀ base : Heap, Okd P w K mg base 10 (He.fAd K ("Device", some "step")) ["self", "choice"] (spA K a_Device_step) := fun base => Ra19.ok_Device_step T (c.def_ 50 (d := dd_Device_step) rfl) (ok_Device_access base) (ok_Device_look_for_reset base) (ok_Device_go_on base) (ok_Device_look_for_descriptor base)
  have ok_Memory_log : ∀ base : Heap, Okd P w K mg base 1 (He.fAd K ("Memory", some "log")) ["self"] (spA K a_Memory_log) := fun base => Ra19.ok_Memory_log T (c.def_ 51 (d := dd_Memory_log) rfl) 
  have ok_law_taken : ∀ base : Heap, Okd P w K mg base 1 (He.fAd K ("_law_taken", none)) ["_law_own", "_law_result"] (spA K a_law_taken) := fun base => Ra19.ok_law_taken T (c.def_ 52 (d := dd_law_taken) rfl) 
  have ok_law_moved : ∀ base : Heap, Okd P w K mg base 3 (He.fAd K ("_law_moved", none)) ["_law_own", "_law_job", "_law_request", "_law_result"] (spA K a_law_moved) := fun base => Ra19.ok_law_moved T (c.def_ 53 (d := dd_law_moved) rfl) (ok_interrupt base)
  have ok_law_behind : ∀ base : Heap, Okd P w K mg base 4 (He.fAd K ("_law_behind", none)) ["_law_own", "_law_choice", "_law_request", "_law_result"] (spA K a_law_behind) := fun base => Ra19.ok_law_behind T (c.def_ 54 (d := dd_law_behind) rfl) (ok_ready base) (ok_law_taken base) (ok_law_moved base)
  have ok_Device_jobs : ∀ base : Heap, Okd P w K mg base 1 (He.fAd K ("Device", some "jobs")) ["self"] (spA K a_Device_jobs) := fun base => Ra19.ok_Device_jobs T (c.def_ 55 (d := dd_Device_jobs) rfl) 
  obtain ⟨fd, F⟩ := c.def_ 56 (d := dd_law) rfl
  have b := FunD.bindsA (ps := ["_law_script"]) F fun _ _ _ _ _ _ us hl => match us, hl with | [_], _ => rfl
  exact ⟨fd, fun s v => b s [v] rfl, fun base _ _ => Okd.fixD F (Ra19.ok_law T ⟨fd, F⟩ (ok_Memory_init base) (ok_Device_init base) (ok_law_begin base) (ok_law_next base) (ok_law_describe base) (ok_law_driver base) (ok_table_word base) (ok_reset base) (ok_law_wish base) (ok_Device_step base) (ok_Memory_log base) (ok_law_behind base) (ok_Device_jobs base))⟩
end Ra19
/-! RaS1: what the combinators compute, as rules for simp. -/
namespace RA
open L2
section
variable {α β : Type} {S S1 : Sto} {as : Slo} {i j lo hi : Int} {n m : Nat} {fa fb fc fe fo fi fv ff : AE} {fs : AA} {ft gt : AT} {f g : AY} {o o' : A → A → Sto → R A} {xs ys : List A} {a b : A} {s t : String} {F : FA}
def R.elimO {α : Type} : R α → (α → Sto → O) → O
  | .ok a S, g => g a S
  | _, _ => .bad
@[simp] theorem elimO_ok {α : Type} (a : α) (S : Sto) (g : α → Sto → O) : (R.ok a S).elimO g = g a S := rfl
def slot : Option (Option A) → Option A
  | some (some a) => some a
  | _ => none
@[simp] theorem slot_s : slot (some (some a)) = some a := rfl
@[simp] theorem bnd_ok (a : α) (f : α → Sto → R β) : (R.ok a S).bnd f = f a S := rfl
@[simp] theorem bnd_bad (f : α → Sto → R β) : (R.bad).bnd f = R.bad := rfl
@[simp] theorem bnd_exc (f : α → Sto → R β) : (R.exc S).bnd f = R.exc S := rfl
@[simp] theorem calm_ok (a : α) : (R.ok a S).calm = .ok a S := rfl
@[simp] theorem sbd_ok (a : α) (g : α → Sto → O) : sbd (.ok a S) as g = g a S := rfl
@[simp] theorem sbd_exc (g : α → Sto → O) : sbd (.exc S) as g = .exc as S := rfl
@[simp] theorem sbd_bad (g : α → Sto → O) : sbd .bad as g = .bad := rfl
@[simp] theorem xC_d : xC a as S = .ok a S := rfl
@[simp] theorem xVar_d : xVar n as S = (slot as[n]?).elim .bad fun a => .ok a S := by
  unfold xVar slot
  rcases as[n]? with _ | _ | a <;> rfl
@[simp] theorem xOp_d : xOp o fa fb as S = (fa as S).bnd fun a S1 => (fb as S1).bnd fun b S2 => o a b S2 := rfl
@[simp] theorem aB_d (b : Bool) : aB (.bl b) S = .ok b S := rfl
@[simp] theorem xT_d : xT fe as S = (fe as S).bnd aB := rfl
@[simp] theorem xChain_d : xChain o o' fa fb fc as S = (fa as S).bnd fun a S1 => (fb as S1).bnd fun b S2 => (o a b S2).bnd fun z S3 => aChain o' fc as b z S3 := rfl
@[simp] theorem aChain_t : aChain o' fc as b (.bl true) S = (fc as S).bnd fun c S4 => o' b c S4 := rfl
@[simp] theorem aChain_f : aChain o' fc as b (.bl false) S = .ok (.bl false) S := rfl
@[simp] theorem aInt2_d (g : Int → Int → A) : aInt2 g (.int i) (.int j) S = .ok (g i j) S := rfl
@[simp] theorem aInt2c_d (c : Int → Int → Bool) (g : Int → Int → A) : aInt2c c g (.int i) (.int j) S = if c i j = true then .ok (g i j) S else .bad := rfl
@[simp] theorem aAdd_i : aAdd (.int i) (.int j) S = .ok (.int (i + j)) S := rfl
@[simp] theorem aAdd_t : aAdd (.tup xs) (.tup ys) S = if xs.length + ys.length ≤ 1000000 then .ok (.tup (xs ++ ys)) S else .bad := rfl
theorem aAdd_l (h1 : S[n]? = some (.lst xs)) (h2 : S[m]? = some (.lst ys)) : aAdd (.ref n) (.ref m) S = if xs.length + ys.length ≤ 1000000 then .ok (.ref S.length) (S ++ [.lst (xs ++ ys)]) else .bad := by simp [aAdd, h1, h2]
@[simp] theorem aMul_i : aMul (.int i) (.int j) S = if (decide (-18446744073709551616 < i) && decide (i < 18446744073709551616) || decide (-18446744073709551616 < j) && decide (j < 18446744073709551616)) = true then .ok (.int (i * j)) S else .bad := rfl
theorem aMul_l (h1 : S[n]? = some (.lst xs)) : aMul (.ref n) (.int j) S = if (decide (-1000000 ≤ j) && (decide (j ≤ 1000000) && decide (xs.length * j.toNat ≤ 1000000))) = true then .ok (.ref S.length) (S ++ [.lst (List.replicate j.toNat xs).flatten]) else .bad := by simp [aMul, h1]
@[simp] theorem aMul_t : aMul (.tup xs) (.int j) S = if (decide (2 ≤ j) && (decide (j ≤ 1000) && (decide (xs.length ≤ 1000) && !xs.isEmpty))) = true then .ok (.tup (List.replicate j.toNat xs).flatten) S else .bad := rfl
@[simp] theorem aIsN_d : aIsN a .non S = .ok (.bl a.isNon) S := rfl
@[simp] theorem aNotN_d : aNotN a .non S = .ok (.bl (!a.isNon)) S := rfl
@[simp] theorem isNon_non : A.isNon .non = true := rfl
@[simp] theorem isNon_int : A.isNon (.int i) = false := rfl
@[simp] theorem isNon_tup : A.isNon (.tup xs) = false := rfl
@[simp] theorem isNon_str : A.isNon (.str s) = false := rfl
@[simp] theorem isNon_bl (b : Bool) : A.isNon (.bl b) = false := rfl
@[simp] theorem isNon_ref : A.isNon (.ref n) = false := rfl
@[simp] theorem aBl2_d (g : Bool → Bool → Bool) (b c : Bool) : aBl2 g (.bl b) (.bl c) S = .ok (.bl (g b c)) S := rfl
@[simp] theorem aIx_t : aIx (.tup xs) (.int i) S = (atI xs i).elim .bad fun v => .ok v S := by
  unfold aIx
  dsimp only
  cases atI xs i <;> rfl
@[simp] theorem aIx_q : aIx (.seq xs) (.int i) S = (atI xs i).elim .bad fun v => .ok v S := by
  unfold aIx
  dsimp only
  cases atI xs i <;> rfl
theorem aIx_l (h : S[n]? = some (.lst xs)) : aIx (.ref n) (.int i) S = (atI xs i).elim .bad fun v => .ok v S := by
  unfold aIx
  simp only [h]
  cases atI xs i <;> rfl
@[simp] theorem aSl_t {l h : Option Int} : aSl (.tup xs) l h S = .ok (.tup (cutA xs l h)) S := rfl
theorem aSl_l {l h : Option Int} (e : S[n]? = some (.lst xs)) : aSl (.ref n) l h S = .ok (.ref S.length) (S ++ [.lst (cutA xs l h)]) := by simp [aSl, e]
@[simp] theorem aTru_bl (b : Bool) : aTru (.bl b) S = .ok b S := rfl
@[simp] theorem aTru_i : aTru (.int i) S = .ok (i != 0) S := rfl
@[simp] theorem aTru_n : aTru .non S = .ok false S := rfl
@[simp] theorem aTru_t : aTru (.tup xs) S = .ok (!xs.isEmpty) S := rfl
theorem aTru_l (h : S[n]? = some (.lst xs)) : aTru (.ref n) S = .ok (!xs.isEmpty) S := by simp [aTru, h]
theorem aTru_d {kvs : List (AK × A)} (h : S[n]? = some (.dK false kvs)) : aTru (.ref n) S = .ok (!kvs.isEmpty) S := by simp [aTru, h]
@[simp] theorem xTru_d : xTru fe as S = (fe as S).bnd aTru := rfl
@[simp] theorem xNotT_d : xNotT ft as S = (ft as S).bnd fun k S1 => .ok (!k) S1 := rfl
@[simp] theorem xAndT_d : xAndT ft gt as S = (ft as S).bnd fun k S1 => if k = true then gt as S1 else .ok false S1 := rfl
@[simp] theorem xOrT_d : xOrT ft gt as S = (ft as S).bnd fun k S1 => if k = true then .ok true S1 else gt as S1 := rfl
@[simp] theorem xAnd_d : xAnd fa fb as S = (fa as S).bnd (aAndV (fb as)) := rfl
@[simp] theorem xOr_d : xOr fa fb as S = (fa as S).bnd (aOrV (fb as)) := rfl
@[simp] theorem aAndV_t (g : Sto → R A) : aAndV g (.bl true) S = g S := rfl
@[simp] theorem aAndV_f (g : Sto → R A) : aAndV g (.bl false) S = .ok (.bl false) S := rfl
@[simp] theorem aOrV_t (g : Sto → R A) : aOrV g (.bl true) S = .ok (.bl true) S := rfl
@[simp] theorem aOrV_f (g : Sto → R A) : aOrV g (.bl false) S = g S := rfl
@[simp] theorem xNot_d : xNot fa as S = (fa as S).bnd aNotV := rfl
@[simp] theorem aNotV_d (b : Bool) : aNotV (.bl b) S = .ok (.bl (!b)) S := rfl
@[simp] theorem xIf_d : xIf ft fa fb as S = (ft as S).bnd fun k S1 => if k = true then fa as S1 else fb as S1 := rfl
@[simp] theorem xNeg_d : xNeg fa as S = (fa as S).bnd aNeg := rfl
@[simp] theorem aNeg_d : aNeg (.int i) S = .ok (.int (-i)) S := rfl
@[simp] theorem xNil_d : xNil as S = .ok [] S := rfl
@[simp] theorem xCons_d : xCons fe fs as S = (fe as S).bnd fun a S1 => (fs as S1).bnd fun r S2 => .ok (a :: r) S2 := rfl
@[simp] theorem xTup_d : xTup fs as S = (fs as S).bnd aTup := rfl
@[simp] theorem xLst_d : xLst fs as S = (fs as S).bnd aLst := rfl
@[simp] theorem aTup_d : aTup xs S = if xs.length ≤ 1000000 then .ok (.tup xs) S else .bad := rfl
@[simp] theorem aLst_d : aLst xs S = if xs.length ≤ 1000000 then .ok (.ref S.length) (S ++ [.lst xs]) else .bad := rfl
@[simp] theorem xNoPart_d : xNoPart as S = .ok none S := rfl
@[simp] theorem xPart_d : xPart fe as S = (fe as S).bnd aPart := rfl
@[simp] theorem aPart_d : aPart (.int i) S = .ok (some i) S := rfl
@[simp] theorem xSl_d (fl fh : AO') : xSl fe fl fh as S = (fe as S).bnd fun a S1 => (fl as S1).bnd fun l S2 => (fh as S2).bnd fun h S3 => aSl a l h S3 := rfl
@[simp] theorem xFld_d : xFld fe s as S = (fe as S).bnd (aFld s) := rfl
theorem aFld_d {C : String} {fs : List (String × A)} {v : A} (h : S[n]? = some (.ins C fs)) (k : fget s fs = some v) : aFld s (.ref n) S = .ok v S := by simp [aFld, h, k]
theorem aFld_e {C : String} {fs : List (String × A)} (h : S[n]? = some (.ins C fs)) : aFld s (.ref n) S = (fget s fs).elim .bad fun v => .ok v S := by
  unfold aFld
  simp only [h]
  cases fget s fs <;> rfl
@[simp] theorem fget_cons (g : String) (r : List (String × A)) : fget s ((g, a) :: r) = if g = s then some a else fget s r := rfl
@[simp] theorem fget_nil : fget s [] = none := rfl
@[simp] theorem fput_cons (g : String) (r : List (String × A)) : fput s b ((g, a) :: r) = if g = s then (g, b) :: r else (g, a) :: fput s b r := rfl
@[simp] theorem fput_nil : fput s b [] = [(s, b)] := rfl
@[simp] theorem xCall_d : xCall F fs as S = (fs as S).bnd F := rfl
@[simp] theorem xCall0_d : xCall0 F as S = (F [] S).calm := rfl
@[simp] theorem xMeth_d : xMeth s t F fe fs as S = (fe as S).bnd fun a S1 => (aRecv s t a S1).bnd fun r S2 => (fs as S2).bnd fun l S3 => F (r :: l) S3 := rfl
@[simp] theorem xMeth0_d : xMeth0 s t F fe as S = (fe as S).bnd fun a S1 => (aRecv s t a S1).bnd fun r S2 => (F [r] S2).calm := rfl
theorem aRecv_d {C : String} {fs : List (String × A)} (h : S[n]? = some (.ins C fs)) (k : fget t fs = none) : aRecv C t (.ref n) S = .ok (.ref n) S := by simp [aRecv, h, k]
theorem aRecv_e {C : String} {fs : List (String × A)} (h : S[n]? = some (.ins C fs)) : aRecv C t (.ref n) S = (fget t fs).elim (.ok (.ref n) S) fun _ => .bad := by
  simp only [aRecv, h]
  simp only [if_true]
  cases fget t fs <;> rfl
@[simp] theorem aMade_d : aMade n .non S = .ok (.ref n) S := rfl
@[simp] theorem xMake_d : xMake s F fs as S = (fs as S).bnd (aMake s F) := rfl
@[simp] theorem xMake0_d : xMake0 s F as S = aMake s F [] S := rfl
theorem aMake_d (l : List A) : aMake s F l S = ((F (.ref S.length :: l) (S ++ [.ins s []])).calm).bnd (aMade S.length) := rfl
@[simp] theorem bLen_t : bLen [.tup xs] S = .ok (.int xs.length) S := rfl
@[simp] theorem bLen_q : bLen [.seq xs] S = .ok (.int xs.length) S := rfl
theorem bLen_l (h : S[n]? = some (.lst xs)) : bLen [.ref n] S = .ok (.int xs.length) S := by simp [bLen, h]
theorem bLen_d {kvs : List (AK × A)} (h : S[n]? = some (.dK false kvs)) : bLen [.ref n] S = .ok (.int kvs.length) S := by simp [bLen, h]
@[simp] theorem bAbs_d : bAbs [.int i] S = .ok (.int (if i < 0 then -i else i)) S := rfl
@[simp] theorem bInt_i : bInt [.int i] S = .ok (.int i) S := rfl
@[simp] theorem bInt_b (b : Bool) : bInt [.bl b] S = .ok (.int (if b then 1 else 0)) S := rfl
@[simp] theorem bMin_d : bMin [.int i, .int j] S = .ok (.int (if j < i then j else i)) S := rfl
@[simp] theorem bMax_d : bMax [.int i, .int j] S = .ok (.int (if j > i then j else i)) S := rfl
@[simp] theorem bList_t : bList [.tup xs] S = .ok (.ref S.length) (S ++ [.lst xs]) := rfl
@[simp] theorem bList_q : bList [.seq xs] S = .ok (.ref S.length) (S ++ [.lst xs]) := rfl
theorem bList_l (h : S[n]? = some (.lst xs)) : bList [.ref n] S = .ok (.ref S.length) (S ++ [.lst xs]) := by simp [bList, h]
@[simp] theorem bTuple_t : bTuple [.tup xs] S = .ok (.tup xs) S := rfl
theorem bTuple_l (h : S[n]? = some (.lst xs)) : bTuple [.ref n] S = .ok (.tup xs) S := by simp [bTuple, h]
/-! isinstance of a value that is no object -/
def tyB : A → Option String
  | .non => some "NoneType"
  | .bl _ => some "bool"
  | .int _ => some "int"
  | .str _ => some "str"
  | .tup _ => some "tuple"
  | .seq _ => some "list"
  | _ => none
@[simp] theorem bIsi_non (u : String) : bIsi [.non, .ty u] S = (kitA "NoneType" u).elim .bad fun b => .ok (.bl b) S := by
  unfold bIsi tyA
  simp only
  cases kitA "NoneType" u <;> rfl
@[simp] theorem bIsi_bl (b : Bool) (u : String) : bIsi [.bl b, .ty u] S = (kitA "bool" u).elim .bad fun b => .ok (.bl b) S := by
  unfold bIsi tyA
  simp only
  cases kitA "bool" u <;> rfl
@[simp] theorem bIsi_int (u : String) : bIsi [.int i, .ty u] S = (kitA "int" u).elim .bad fun b => .ok (.bl b) S := by
  unfold bIsi tyA
  simp only
  cases kitA "int" u <;> rfl
@[simp] theorem bIsi_str (u : String) : bIsi [.str s, .ty u] S = (kitA "str" u).elim .bad fun b => .ok (.bl b) S := by
  unfold bIsi tyA
  simp only
  cases kitA "str" u <;> rfl
@[simp] theorem bIsi_tup (u : String) : bIsi [.tup xs, .ty u] S = (kitA "tuple" u).elim .bad fun b => .ok (.bl b) S := by
  unfold bIsi tyA
  simp only
  cases kitA "tuple" u <;> rfl
theorem bIsi_lst {u : String} (h : S[n]? = some (.lst xs)) : bIsi [.ref n, .ty u] S = (kitA "list" u).elim .bad fun b => .ok (.bl b) S := by
  unfold bIsi tyA
  simp only [h]
  cases kitA "list" u <;> rfl
@[simp] theorem kitA_int (x : String) : kitA x "int" = some (x == "int" || x == "bool") := rfl
@[simp] theorem kitA_bool (x : String) : kitA x "bool" = some (x == "bool") := rfl
@[simp] theorem kitA_str (x : String) : kitA x "str" = some (x == "str") := rfl
@[simp] theorem kitA_tuple (x : String) : kitA x "tuple" = some (x == "tuple") := rfl
@[simp] theorem kitA_list (x : String) : kitA x "list" = some (x == "list") := rfl
/-! ### statements -/
def O.thn : O → AY → O
  | .nx as S, g => g as S
  | o, _ => o
@[simp] theorem thn_nx : (O.nx as S).thn g = g as S := rfl
@[simp] theorem thn_rt : (O.rt a S).thn g = .rt a S := rfl
@[simp] theorem thn_exc : (O.exc as S).thn g = .exc as S := rfl
@[simp] theorem thn_bk : (O.bk as S).thn g = .bk as S := rfl
@[simp] theorem thn_ct : (O.ct as S).thn g = .ct as S := rfl
@[simp] theorem ySeq_d : ySeq f g as S = (f as S).thn g := by
  unfold ySeq O.thn
  cases f as S <;> rfl
@[simp] theorem yNext_d : yNext as S = .nx as S := rfl
@[simp] theorem yCont_d : yCont as S = .ct as S := rfl
@[simp] theorem yBreak_d : yBreak as S = .bk as S := rfl
@[simp] theorem yDrop_d : yDrop fe as S = sbd (fe as S) as fun _ S1 => .nx as S1 := rfl
@[simp] theorem yRet_d : yRet fe as S = sbd (fe as S) as fun a S1 => .rt a S1 := rfl
@[simp] theorem yRetN_d : yRetN as S = .rt .non S := rfl
@[simp] theorem yIf_d : yIf ft f g as S = sbd (ft as S) as fun b S1 => if b = true then f as S1 else g as S1 := rfl
@[simp] theorem yRaise_d : yRaise as S = .exc as S := rfl
@[simp] theorem yAsg_d (t : TA') : yAsg fe t as S = sbd (fe as S) as fun a S1 => sbd ((t a as S1).calm) as fun as' S2 => .nx as' S2 := rfl
@[simp] theorem gN_d : gN n a as S = .ok (as.set n (some a)) S := rfl
@[simp] theorem gNilA_d : gNilA [] as S = .ok as S := rfl
@[simp] theorem gConsA_d (t : TA') (u : TAs) (r : List A) : gConsA t u (a :: r) as S = ((t a as S).calm).bnd fun as' S' => u r as' S' := rfl
@[simp] theorem gT_d (u : TAs) : gT n u (.tup xs) as S = if xs.length = n then u xs as S else .bad := rfl
@[simp] theorem gSb_d : gSb fo fi a as S = (((fo as S).bnd fun x S1 => (fi as S1).bnd fun k S2 => aSetI' x k a as S2)).calm := rfl
theorem aSetI_d {j : Nat} (h : S[n]? = some (.lst xs)) (k : ixN xs.length i = some j) : aSetI' (.ref n) (.int i) a as S = .ok as (S.set n (.lst (xs.set j a))) := by simp [aSetI', h, k]
@[simp] theorem ySF_d : ySF fo s fv as S = sbd (fv as S) as fun y S1 => sbd (fo as S1) as fun a S2 => sbd (aSF s y a S2) as fun _ S3 => .nx as S3 := rfl
theorem aSF_d {C : String} {fs : List (String × A)} {v : A} (h : S[n]? = some (.ins C fs)) (k : fget s fs = some v) : aSF s b (.ref n) S = .ok () (S.set n (.ins C (fput s b fs))) := by simp [aSF, h, k]
theorem aSF_e {C : String} {fs : List (String × A)} (h : S[n]? = some (.ins C fs)) : aSF s b (.ref n) S = (fget s fs).elim .bad fun _ => .ok () (S.set n (.ins C (fput s b fs))) := by
  unfold aSF
  simp only [h]
  cases fget s fs <;> rfl
@[simp] theorem ySFN_d (C : String) : ySFN C fo s fv as S = sbd (fv as S) as fun y S1 => sbd (fo as S1) as fun a S2 => sbd (aSFN C s y a S2) as fun _ S3 => .nx as S3 := rfl
theorem aSFN_d {C : String} {fs : List (String × A)} (h : S[n]? = some (.ins C fs)) : aSFN C s b (.ref n) S = if fs.length < 900 then .ok () (S.set n (.ins C (fput s b fs))) else .bad := by
  simp only [aSFN, h]
  simp
@[simp] theorem gAt_d (C : String) : gAt C fo s a as S = (((fo as S).bnd fun x S1 => (aSFN C s a x S1).bnd fun _ S2 => .ok as S2)).calm := rfl
@[simp] theorem yFA_d : yFA fo s fv as S = sbd (fo as S) as fun a S1 => (aCls a S1).elim .bad fun C => ((aFld s a S1).calm).elimO fun x S2 => aAug s fv as C a x S2 := by
  unfold yFA
  congr 1
  funext a S1
  cases aCls a S1 with
  | none => rfl
  | some C => cases aFld s a S1 <;> rfl
theorem aCls_d {C : String} {fs : List (String × A)} (h : S[n]? = some (.ins C fs)) : aCls (.ref n) S = some C := by simp [aCls, h]
@[simp] theorem aAug_d (C : String) (x : A) : aAug s fv as C a x S = sbd (fv as S) as fun y S3 => (aPlus x y).elim .bad fun z => sbd (aSFC C s z a S3) as fun _ S4 => .nx as S4 := by
  unfold aAug
  congr 1
  funext y S3
  cases aPlus x y <;> rfl
@[simp] theorem aPlus_d : aPlus (.int i) (.int j) = some (.int (i + j)) := rfl
theorem aSFC_e {C : String} {fs : List (String × A)} (h : S[n]? = some (.ins C fs)) : aSFC C s b (.ref n) S = (fget s fs).elim .bad fun _ => .ok () (S.set n (.ins C (fput s b fs))) := by
  unfold aSFC
  rw [aCls_d h, if_pos rfl, aSF_e h]
@[simp] theorem xApp_d : xApp fo fs as S = (fo as S).bnd fun a S1 => (aIsL a S1).bnd fun a S2 => (fs as S2).bnd fun l S3 => aApp a l S3 := rfl
theorem aIsL_d (h : S[n]? = some (.lst xs)) : aIsL (.ref n) S = .ok (.ref n) S := by simp [aIsL, h]
theorem aApp_d (h : S[n]? = some (.lst xs)) : aApp (.ref n) [a] S = if xs.length < 1000000 then .ok .non (S.set n (.lst (xs ++ [a]))) else .bad := by simp [aApp, h]
/-! ### dicts -/
@[simp] theorem xDNewK_d : xDNewK as S = .ok (.ref S.length) (S ++ [.dK false []]) := rfl
@[simp] theorem xDNewT_d : xDNewT as S = .ok (.ref S.length) (S ++ [.dT []]) := rfl
@[simp] theorem key_int : A.key (.int i) = some (.inl i) := rfl
@[simp] theorem key_str : A.key (.str s) = some (.inr s) := rfl
@[simp] theorem xIn_d : xIn fi fo as S = (fi as S).bnd fun k S1 => (fo as S1).bnd fun a S2 => aHas id a k S2 := rfl
@[simp] theorem xNi_d : xNi fi fo as S = (fi as S).bnd fun k S1 => (fo as S1).bnd fun a S2 => aHas not a k S2 := rfl
theorem aHas_i {g : Bool → Bool} {l : Bool} {kvs : List (AK × A)} (h : S[n]? = some (.dK l kvs)) : aHas g (.ref n) (.int i) S = .ok (.bl (g (alk (.inl i) kvs).isSome)) S := by simp [aHas, aLook, h]
theorem aGet_s {l : Bool} {kvs : List (AK × A)} (h : S[n]? = some (.dK l kvs)) : aGet (.ref n) (.str s) S = (alk (.inr s) kvs).elim .bad fun v => .ok v S := by
  unfold aGet aLook
  simp only [h, key_str]
  cases alk (.inr s) kvs <;> rfl
theorem aGet_i {l : Bool} {kvs : List (AK × A)} (h : S[n]? = some (.dK l kvs)) : aGet (.ref n) (.int i) S = (alk (.inl i) kvs).elim .bad fun v => .ok v S := by
  unfold aGet aLook
  simp only [h, key_int]
  cases alk (.inl i) kvs <;> rfl
@[simp] theorem xGet1_d : xGet1 fo fi as S = (fo as S).bnd fun a S1 => (aDic a S1).bnd fun a S2 => (fi as S2).bnd fun k S3 => aGetD a k .non S3 := rfl
@[simp] theorem xGet2_d : xGet2 fo fi ff as S = (fo as S).bnd fun a S1 => (aDic a S1).bnd fun a S2 => (fi as S2).bnd fun k S3 => (ff as S3).bnd fun d S4 => aGetD a k d S4 := rfl
theorem aDic_k {l : Bool} {kvs : List (AK × A)} (h : S[n]? = some (.dK l kvs)) : aDic (.ref n) S = .ok (.ref n) S := by simp [aDic, h]
theorem aDic_t {kvs : List (List AK × A)} (h : S[n]? = some (.dT kvs)) : aDic (.ref n) S = .ok (.ref n) S := by simp [aDic, h]
theorem aGetD_i {l : Bool} {kvs : List (AK × A)} (h : S[n]? = some (.dK l kvs)) : aGetD (.ref n) (.int i) a S = .ok ((alk (.inl i) kvs).getD a) S := by simp [aGetD, aLook, h]
@[simp] theorem xPop2_d : xPop2 fo fi ff as S = (fo as S).bnd fun a S1 => (aDic a S1).bnd fun a S2 => (fi as S2).bnd fun k S3 => (ff as S3).bnd fun d S4 => aPop a k d S4 := rfl
@[simp] theorem xPop1_d : xPop1 fo fi as S = (fo as S).bnd fun a S1 => (aDic a S1).bnd fun a S2 => (fi as S2).bnd fun k S3 => aPop1 a k S3 := rfl
@[simp] theorem xSetd_d : xSetd fo fi ff as S = (fo as S).bnd fun a S1 => (aDic a S1).bnd fun a S2 => (fi as S2).bnd fun k S3 => (ff as S3).bnd fun d S4 => aSetd a k d S4 := rfl
theorem aPop_i {kvs : List (AK × A)} (h : S[n]? = some (.dK false kvs)) : aPop (.ref n) (.int i) a S = (alk (.inl i) kvs).elim (.ok a S) fun v => .ok v (S.set n (.dK false (adrop (.inl i) kvs))) := by
  unfold aPop
  simp only [h, key_int]
  cases alk (.inl i) kvs <;> rfl
theorem aPop1_i {kvs : List (AK × A)} (h : S[n]? = some (.dK false kvs)) : aPop1 (.ref n) (.int i) S = (alk (.inl i) kvs).elim .bad fun v => .ok v (S.set n (.dK false (adrop (.inl i) kvs))) := by
  unfold aPop1
  simp only [h, key_int]
  cases alk (.inl i) kvs <;> rfl
theorem aSetd_i {kvs : List (AK × A)} (h : S[n]? = some (.dK false kvs)) : aSetd (.ref n) (.int i) a S = if kvs.length < 1000000 then ((alk (.inl i) kvs).elim (.ok a (S.set n (.dK false (aput (.inl i) a kvs)))) fun v => .ok v S) else .bad := by
  unfold aSetd
  simp only [h, key_int]
  cases alk (.inl i) kvs <;> rfl
@[simp] theorem yPutK_d : yPutK fo fi fv as S = sbd (fv as S) as fun v S1 => sbd (fo as S1) as fun a S2 => sbd (fi as S2) as fun k S3 => sbd (aPutK a k v S3) as fun _ S4 => .nx as S4 := rfl
theorem aPutK_i {kvs : List (AK × A)} (h : S[n]? = some (.dK false kvs)) : aPutK (.ref n) (.int i) a S = if kvs.length < 1000000 then .ok () (S.set n (.dK false (aput (.inl i) a kvs))) else .bad := by simp [aPutK, h]
theorem aPutK_s {kvs : List (AK × A)} (h : S[n]? = some (.dK false kvs)) : aPutK (.ref n) (.str s) a S = if kvs.length < 1000000 then .ok () (S.set n (.dK false (aput (.inr s) a kvs))) else .bad := by simp [aPutK, h]
/-! ### calls -/
def O.end : O → R A
  | .nx _ S' => .ok .non S'
  | .rt a S' => .ok a S'
  | .exc _ S' => .exc S'
  | _ => .bad
@[simp] theorem end_nx : (O.nx as S).end = .ok .non S := rfl
@[simp] theorem end_rt : (O.rt a S).end = .ok a S := rfl
@[simp] theorem end_exc : (O.exc as S).end = .exc S := rfl
theorem fnA_d (ar k : Nat) (body : AY) (l : List A) (h : l.length = ar) : fnA ar k body l S = (body (l.map some ++ List.replicate k none) S).end := by
  unfold fnA O.end
  rw [if_pos h]
  all_goals (cases body (l.map some ++ List.replicate k none) S <;> rfl)
/-! ### == -/
@[simp] theorem eqv_i : PySem.PyData.eqv (.int i) (.int j) = (i == j) := by simp [PySem.PyData.eqv]
@[simp] theorem toD_int : toD S (.int i) = some (.int i) := by simp [toD, A.dat]
@[simp] theorem toD_non : toD S .non = some .none := by simp [toD, A.dat]
@[simp] theorem toD_bl (b : Bool) : toD S (.bl b) = some (.bool b) := by simp [toD, A.dat]
@[simp] theorem toD_str : toD S (.str s) = some (.str (PySem.Str.ofString s)) := by simp [toD, A.dat]
@[simp] theorem eqv_s : PySem.PyData.eqv (.str (PySem.Str.ofString s)) (.str (PySem.Str.ofString t)) = decide (s = t) := by
  simp only [PySem.PyData.eqv]
  by_cases h : s = t
  · subst h; simp
  · rw [decide_eq_false h]
    exact beq_eq_false_iff_ne.mpr fun z => h (str_inj z)
@[simp] theorem aEq_i : aEq (.int i) (.int j) S = .ok (.bl (i == j)) S := by simp [aEq, aEqB, PySem.PyData.depth]
@[simp] theorem aNe_i : aNe (.int i) (.int j) S = .ok (.bl (!(i == j))) S := by simp [aNe, aEqB, PySem.PyData.depth]
@[simp] theorem aEq_s : aEq (.str s) (.str t) S = .ok (.bl (decide (s = t))) S := by simp [aEq, aEqB, PySem.PyData.depth]
@[simp] theorem aNe_s : aNe (.str s) (.str t) S = .ok (.bl (!decide (s = t))) S := by simp [aNe, aEqB, PySem.PyData.depth]
@[simp] theorem aNe_ni : aNe .non (.int i) S = .ok (.bl true) S := by simp [aNe, aEqB, PySem.PyData.depth, PySem.PyData.eqv]
@[simp] theorem aEq_ni : aEq .non (.int i) S = .ok (.bl false) S := by simp [aEq, aEqB, PySem.PyData.depth, PySem.PyData.eqv]
@[simp] theorem aEq_b (b c : Bool) : aEq (.bl b) (.bl c) S = .ok (.bl (b == c)) S := by simp [aEq, aEqB, PySem.PyData.depth, PySem.PyData.eqv]
@[simp] theorem aNe_b (b c : Bool) : aNe (.bl b) (.bl c) S = .ok (.bl (!(b == c))) S := by simp [aNe, aEqB, PySem.PyData.depth, PySem.PyData.eqv]
theorem dats_strs (rf : Nat → Option PySem.PyData) : ∀ ts : List String, A.dats rf (ts.map .str) = some (ts.map fun t => .str (PySem.Str.ofString t))
  | [] => rfl
  | t :: ts => by simp [A.dats, A.dat, dats_strs rf ts]
theorem depth_strs : ∀ ts : List String, PySem.PyData.depthAll (ts.map fun t => .str (PySem.Str.ofString t)) ≤ 1
  | [] => by simp [PySem.PyData.depthAll]
  | t :: ts => by
    have := depth_strs ts
    simp only [List.map_cons, PySem.PyData.depthAll, PySem.PyData.depth]
    omega
theorem aInB_s (ts : List String) : aInB (.str s) (.tup (ts.map .str)) S = some (ts.any fun t => decide (t = s)) := by
  have hd := depth_strs ts
  have h2 : min (PySem.PyData.depthAll (ts.map fun t => .str (PySem.Str.ofString t))) (PySem.PyData.depth (.str (PySem.Str.ofString s))) ≤ 64 := by omega
  unfold aInB
  simp only [toD, A.dat, dats_strs]
  rw [if_pos h2, List.any_map]
  congr 2
  funext t
  exact eqv_s
theorem aIn_s (ts : List String) : aIn (.str s) (.tup (ts.map .str)) S = .ok (.bl (ts.any fun t => decide (t = s))) S := by
  unfold aIn
  rw [aInB_s]
@[simp] theorem aIn_s2 (a b : String) : aIn (.str s) (.tup [.str a, .str b]) S = .ok (.bl (decide (a = s) || decide (b = s))) S := (aIn_s [a, b]).trans (by simp)
@[simp] theorem aIn_s3 (a b c : String) : aIn (.str s) (.tup [.str a, .str b, .str c]) S = .ok (.bl (decide (a = s) || (decide (b = s) || decide (c = s)))) S := (aIn_s [a, b, c]).trans (by simp)
theorem aNi_s (ts : List String) : aNi (.str s) (.tup (ts.map .str)) S = .ok (.bl (!ts.any fun t => decide (t = s))) S := by
  unfold aNi
  rw [aInB_s]
@[simp] theorem atI_0 (x : α) (l : List α) : atI (x :: l) 0 = some x := by
  simp [atI, ixN]
@[simp] theorem atI_1 (x y : α) (l : List α) : atI (x :: y :: l) 1 = some y := by
  have : (0 : Int) ≤ 1 := by decide
  have h : (1 : Int) < ((x :: y :: l).length : Int) := by simp only [List.length_cons]; omega
  simp only [atI, ixN, if_pos this, if_pos h]
  rfl
@[simp] theorem atI_2 (x y z : α) (l : List α) : atI (x :: y :: z :: l) 2 = some z := by
  have : (0 : Int) ≤ 2 := by decide
  have h : (2 : Int) < ((x :: y :: z :: l).length : Int) := by simp only [List.length_cons]; omega
  simp only [atI, ixN, if_pos this, if_pos h]
  rfl
@[simp] theorem atI_3 (x y z u : α) (l : List α) : atI (x :: y :: z :: u :: l) 3 = some u := by
  have : (0 : Int) ≤ 3 := by decide
  have h : (3 : Int) < ((x :: y :: z :: u :: l).length : Int) := by simp only [List.length_cons]; omega
  simp only [atI, ixN, if_pos this, if_pos h]
  rfl
@[simp] theorem atI_4 (x y z u v : α) (l : List α) : atI (x :: y :: z :: u :: v :: l) 4 = some v := by
  have : (0 : Int) ≤ 4 := by decide
  have h : (4 : Int) < ((x :: y :: z :: u :: v :: l).length : Int) := by simp only [List.length_cons]; omega
  simp only [atI, ixN, if_pos this, if_pos h]
  rfl
theorem atI_n {l : List α} {i : Int} (h0 : 0 ≤ i) (h1 : i < l.length) : atI l i = l[i.toNat]? := by
  simp only [atI, ixN, if_pos h0, if_pos h1]
  rfl
theorem ixN_n {n : Nat} {i : Int} (h0 : 0 ≤ i) (h1 : i < n) : ixN n i = some i.toNat := by simp only [ixN, if_pos h0, if_pos h1]
theorem fn0 {k : Nat} {body : AY}  : fnA 0 k body [] S = (body ([] ++ List.replicate k none) S).end := fnA_d _ _ _ _ rfl
theorem fn1 {k : Nat} {body : AY} {a0 : A} : fnA 1 k body [a0] S = (body ([some a0] ++ List.replicate k none) S).end := fnA_d _ _ _ _ rfl
theorem fn2 {k : Nat} {body : AY} {a0 a1 : A} : fnA 2 k body [a0, a1] S = (body ([some a0, some a1] ++ List.replicate k none) S).end := fnA_d _ _ _ _ rfl
theorem fn3 {k : Nat} {body : AY} {a0 a1 a2 : A} : fnA 3 k body [a0, a1, a2] S = (body ([some a0, some a1, some a2] ++ List.replicate k none) S).end := fnA_d _ _ _ _ rfl
theorem fn4 {k : Nat} {body : AY} {a0 a1 a2 a3 : A} : fnA 4 k body [a0, a1, a2, a3] S = (body ([some a0, some a1, some a2, some a3] ++ List.replicate k none) S).end := fnA_d _ _ _ _ rfl
theorem fn5 {k : Nat} {body : AY} {a0 a1 a2 a3 a4 : A} : fnA 5 k body [a0, a1, a2, a3, a4] S = (body ([some a0, some a1, some a2, some a3, some a4] ++ List.replicate k none) S).end := fnA_d _ _ _ _ rfl
theorem fn6 {k : Nat} {body : AY} {a0 a1 a2 a3 a4 a5 : A} : fnA 6 k body [a0, a1, a2, a3, a4, a5] S = (body ([some a0, some a1, some a2, some a3, some a4, some a5] ++ List.replicate k none) S).end := fnA_d _ _ _ _ rfl
end
end RA
/-! RaMem: the memory as a record; what the memory's methods do. -/
namespace RaM
open RA RaP L2
/-! ### plain values -/
mutual
def A.dat' : A → Bool
  | .non => true
  | .bl _ => true
  | .int _ => true
  | .str _ => true
  | .tup xs => A.dats' xs
  | _ => false
def A.dats' : List A → Bool
  | [] => true
  | a :: r => A.dat' a && A.dats' r
end
abbrev Da (a : A) : Prop := A.dat' a = true
theorem Da.int (i : Int) : Da (.int i) := by simp [Da, A.dat']
theorem Da.non : Da .non := by simp [Da, A.dat']
theorem Da.str (s : String) : Da (.str s) := by simp [Da, A.dat']
theorem Da.bl (b : Bool) : Da (.bl b) := by simp [Da, A.dat']
theorem dats_all : ∀ {xs : List A}, A.dats' xs = true ↔ ∀ x ∈ xs, Da x
  | [] => by simp [A.dats']
  | a :: r => by simp [A.dats', dats_all]
theorem Da.tup {xs : List A} : Da (.tup xs) ↔ ∀ x ∈ xs, Da x := by
  unfold Da
  rw [A.dat', dats_all]
/-! ### numbers within bounds -/
def inB (v : A) (lo hi : Int) : Bool := match v with
  | .int i => decide (lo ≤ i) && decide (i ≤ hi)
  | _ => false
section
variable (S : Sto)
theorem within_d {v : A} (lo hi : Int) (h : Da v) : a_is_within [v, .int lo, .int hi] S = .ok (.bl (inB v lo hi)) S := by
  cases v with
  | int i =>
    simp [a_is_within, fnA_d, inB]
    by_cases h : lo ≤ i <;> simp [h]
  | non => simp [a_is_within, fnA_d, inB]
  | bl b => simp [a_is_within, fnA_d, inB]
  | str b => simp [a_is_within, fnA_d, inB]
  | tup b => simp [a_is_within, fnA_d, inB]
  | ref n => simp [Da, A.dat'] at h
  | seq n => simp [Da, A.dat'] at h
  | glo n => simp [Da, A.dat'] at h
  | ty n => simp [Da, A.dat'] at h
@[simp] theorem within_i (i lo hi : Int) : a_is_within [.int i, .int lo, .int hi] S = .ok (.bl (decide (lo ≤ i) && decide (i ≤ hi))) S := within_d S lo hi (Da.int i)
@[simp] theorem frame_cell_d (d f i : Int) : a_frame_cell [.int d, .int f, .int i] S = .ok (.int (24 * d + 4 * f + i)) S := by simp [a_frame_cell, fnA_d]
@[simp] theorem doorbell_d (d : Int) : a_doorbell [.int d] S = .ok (.int (48 + 4 * d)) S := by simp [a_doorbell, fnA_d]
@[simp] theorem reset_d (d : Int) : a_reset [.int d] S = .ok (.int (49 + 4 * d)) S := by
  simp [a_reset, fnA_d]
  omega
@[simp] theorem ready_d (d : Int) : a_ready [.int d] S = .ok (.int (50 + 4 * d)) S := by
  simp [a_ready, fnA_d]
  omega
@[simp] theorem interrupt_d (d : Int) : a_interrupt [.int d] S = .ok (.int (51 + 4 * d)) S := by
  simp [a_interrupt, fnA_d]
  omega
@[simp] theorem table_word_d (d p : Int) : a_table_word [.int d, .int p] S = .ok (.int (56 + 6 * d + p)) S := by simp [a_table_word, fnA_d]
@[simp] theorem acknowledge_d (d : Int) : a_acknowledge [.int d] S = .ok (.int (68 + d)) S := by simp [a_acknowledge, fnA_d]
@[simp] theorem is_register_d (d c : Int) : a_is_register [.int d, .int c] S = .ok (.bl (decide (48 + 4 * d ≤ c) && decide (c ≤ 51 + 4 * d))) S := by
  simp [a_is_register, fnA_d]
  by_cases h : 48 + 4 * d ≤ c <;> simp [h]
def ofDrv (d c : Int) : Bool := decide (24 * d ≤ c ∧ c < 24 * d + 24 ∨ 48 + 4 * d ≤ c ∧ c ≤ 51 + 4 * d ∨ 56 + 6 * d ≤ c ∧ c < 62 + 6 * d ∨ c = 68 + d)
@[simp] theorem is_of_driver_d (d c : Int) : a_is_of_driver [.int d, .int c] S = .ok (.bl (ofDrv d c)) S := by
  simp [a_is_of_driver, fnA_d]
  have e : ∀ b : Bool, (b = true ↔ (24 * d ≤ c ∧ c < 24 * d + 24 ∨ 48 + 4 * d ≤ c ∧ c ≤ 51 + 4 * d ∨ 56 + 6 * d ≤ c ∧ c < 62 + 6 * d ∨ c = 68 + d)) → ofDrv d c = b := fun b h => by
    unfold ofDrv
    rw [Bool.eq_iff_iff, h, decide_eq_true_eq]
  by_cases h1 : 24 * d ≤ c <;> by_cases h2 : c < 24 * d + 24 <;> by_cases h3 : 48 + 4 * d ≤ c <;> by_cases h4 : c ≤ 51 + 4 * d <;> by_cases h5 : 56 + 6 * d ≤ c <;> by_cases h6 : c < 56 + 6 * d + 6 <;> simp [h1, h2, h3, h4, h5, h6] <;>
    first | (refine e _ ?_; simp; omega) | (refine (e _ ?_).symm; simp; omega)
end
/-! ### objects by roles -/
def upR {ι β : Type} [DecidableEq ι] (f : ι → β) (r : ι) (x : β) : ι → β := fun j => if j = r then x else f j
@[simp] theorem upR_same {ι β : Type} [DecidableEq ι] (f : ι → β) (r : ι) (x : β) : upR f r x r = x := if_pos rfl
theorem upR_ne {ι β : Type} [DecidableEq ι] (f : ι → β) {r j : ι} (x : β) (h : j ≠ r) : upR f r x j = f j := if_neg h
/-- the objects o stand at the places f -/
structure Lay {ι : Type} (S : Sto) (f : ι → Nat) (o : ι → AO) : Prop where
  at_ : ∀ r, S[f r]? = some (o r)
  inj : ∀ r j, f r = f j → r = j
section
variable {ι : Type} [DecidableEq ι] {S : Sto} {f : ι → Nat} {o : ι → AO}
theorem Lay.lt (h : Lay S f o) (r : ι) : f r < S.length := (List.getElem?_eq_some_iff.mp (h.at_ r)).1
theorem Lay.set (h : Lay S f o) (r : ι) (x : AO) : Lay (S.set (f r) x) f (upR o r x) := by
  refine ⟨fun j => ?_, h.inj⟩
  rw [List.getElem?_set]
  by_cases c : j = r
  · subst c
    rw [if_pos rfl, if_pos (h.lt j), upR_same]
  · rw [if_neg fun z => c (h.inj _ _ z).symm, upR_ne _ _ c]
    exact h.at_ j
theorem Lay.app (h : Lay S f o) (T : Sto) : Lay (S ++ T) f o := ⟨fun j => by rw [List.getElem?_append_left (h.lt j)]; exact h.at_ j, h.inj⟩
/-- a role moves to a new object -/
theorem Lay.move (h : Lay S f o) (r : ι) (x : AO) : Lay (S ++ [x]) (upR f r S.length) (upR o r x) := by
  refine ⟨fun j => ?_, fun a b e => ?_⟩
  · by_cases c : j = r
    · subst c
      rw [upR_same, upR_same, List.getElem?_append_right (Nat.le_refl _)]
      simp
    · rw [upR_ne _ _ c, upR_ne _ _ c, List.getElem?_append_left (h.lt j)]
      exact h.at_ j
  · unfold upR at e
    by_cases ca : a = r <;> by_cases cb : b = r
    · rw [ca, cb]
    · rw [if_pos ca, if_neg cb] at e
      have := h.lt b
      omega
    · rw [if_neg ca, if_pos cb] at e
      have := h.lt a
      omega
    · rw [if_neg ca, if_neg cb] at e
      exact h.inj _ _ e
theorem Lay.to {o' : ι → AO} (h : Lay S f o) (e : ∀ r, o r = o' r) : Lay S f o' := ⟨fun r => by rw [h.at_ r, e r], h.inj⟩
end
/-- what stands beside the objects at f stands still -/
structure Fr {ι : Type} (S S' : Sto) (f f' : ι → Nat) : Prop where
  len : S.length ≤ S'.length
  keep : ∀ n, n < S.length → (∀ r, f r ≠ n) → S'[n]? = S[n]?
  ids : ∀ r, (∃ j, f j = f' r) ∨ S.length ≤ f' r
theorem Fr.refl {ι : Type} {S : Sto} {f : ι → Nat} : Fr S S f f := ⟨Nat.le_refl _, fun _ _ _ => rfl, fun r => .inl ⟨r, rfl⟩⟩
theorem Fr.trans {ι : Type} {S S1 S2 : Sto} {f f1 f2 : ι → Nat} (a : Fr S S1 f f1) (b : Fr S1 S2 f1 f2) : Fr S S2 f f2 := by
  refine ⟨Nat.le_trans a.len b.len, fun n hn h => ?_, fun r => ?_⟩
  · rw [b.keep n (Nat.lt_of_lt_of_le hn a.len) fun r e => ?_]
    · exact a.keep n hn h
    · rcases a.ids r with ⟨j, q⟩ | q
      · exact h j (q.trans e)
      · omega
  · rcases b.ids r with ⟨j, q⟩ | q
    · rcases a.ids j with ⟨i, p⟩ | p
      · exact .inl ⟨i, p.trans q⟩
      · exact .inr (by omega)
    · exact .inr (Nat.le_trans a.len q)
theorem Fr.set {ι : Type} {S : Sto} {f : ι → Nat} (r : ι) (x : AO) : Fr S (S.set (f r) x) f f := by
  refine ⟨by simp, fun n hn h => ?_, fun j => .inl ⟨j, rfl⟩⟩
  rw [List.getElem?_set_ne (h r)]
theorem Fr.app {ι : Type} {S : Sto} {f : ι → Nat} (T : Sto) : Fr S (S ++ T) f f := ⟨by simp, fun n hn h => List.getElem?_append_left hn, fun j => .inl ⟨j, rfl⟩⟩
theorem Fr.move {ι : Type} [DecidableEq ι] {S : Sto} {f : ι → Nat} (r : ι) (x : AO) : Fr S (S ++ [x]) f (upR f r S.length) := by
  refine ⟨by simp, fun n hn h => List.getElem?_append_left hn, fun j => ?_⟩
  by_cases c : j = r
  · subst c
    exact .inr (by rw [upR_same]; exact Nat.le_refl _)
  · exact .inl ⟨j, by rw [upR_ne _ _ c]⟩
/-! ### the memory -/
structure Sd where
  kept : List (AK × A)
  wait : List A
  tix : Int
  blocks : List A
  jour : List A
structure Mem where
  count : Int
  held : List A
  s0 : Sd
  s1 : Sd
  rows : List A
def Mem.sd (M : Mem) (d : Bool) : Sd := match d with
  | false => M.s0
  | true => M.s1
def Mem.setSd (M : Mem) (d : Bool) (s : Sd) : Mem := match d with
  | false => { M with s0 := s }
  | true => { M with s1 := s }
@[simp] theorem sd_setSd (M : Mem) (d : Bool) (s : Sd) : (M.setSd d s).sd d = s := by cases d <;> rfl
theorem sd_setSd_ne (M : Mem) {d e : Bool} (s : Sd) (h : e ≠ d) : (M.setSd d s).sd e = M.sd e := by cases d <;> cases e <;> first | rfl | exact absurd rfl h
@[simp] theorem setSd_held (M : Mem) (d : Bool) (s : Sd) : (M.setSd d s).held = M.held := by cases d <;> rfl
@[simp] theorem setSd_count (M : Mem) (d : Bool) (s : Sd) : (M.setSd d s).count = M.count := by cases d <;> rfl
@[simp] theorem setSd_rows (M : Mem) (d : Bool) (s : Sd) : (M.setSd d s).rows = M.rows := by cases d <;> rfl
def di (d : Bool) : Int := if d then 1 else 0
@[simp] theorem di_f : di false = 0 := rfl
@[simp] theorem di_t : di true = 1 := rfl
inductive MR where
  | m | h | gs | ss | js | r | g (d : Bool) | k (d : Bool) | w (d : Bool) | b (d : Bool)
  deriving DecidableEq
def memF (f : MR → Nat) (c : Int) : List (String × A) := [("count", .int c), ("held", .ref (f .h)), ("guards", .ref (f .gs)), ("stored", .ref (f .ss)), ("journals", .ref (f .js)), ("rows", .ref (f .r))]
def gdF (f : MR → Nat) (d : Bool) (t : Int) : List (String × A) := [("kept", .ref (f (.k d))), ("waiting", .ref (f (.w d))), ("tickets", .int t)]
def mObj (f : MR → Nat) (M : Mem) : MR → AO
  | .m => .ins "Memory" (memF f M.count)
  | .h => .lst M.held
  | .gs => .lst [.ref (f (.g false)), .ref (f (.g true))]
  | .ss => .lst [.ref (f (.b false)), .ref (f (.b true))]
  | .js => .lst [.tup (M.sd false).jour, .tup (M.sd true).jour]
  | .r => .lst M.rows
  | .g d => .ins "Guard" (gdF f d (M.sd d).tix)
  | .k d => .dK false (M.sd d).kept
  | .w d => .lst (M.sd d).wait
  | .b d => .lst (M.sd d).blocks
abbrev MemAt (S : Sto) (f : MR → Nat) (M : Mem) : Prop := Lay S f (mObj f M)
section
variable {S : Sto} {f : MR → Nat} {M : Mem} (h : MemAt S f M)
include h
theorem MemAt.m : S[f .m]? = some (.ins "Memory" (memF f M.count)) := h.at_ .m
theorem MemAt.hh : S[f .h]? = some (.lst M.held) := h.at_ .h
theorem MemAt.gs : S[f .gs]? = some (.lst [.ref (f (.g false)), .ref (f (.g true))]) := h.at_ .gs
theorem MemAt.ss : S[f .ss]? = some (.lst [.ref (f (.b false)), .ref (f (.b true))]) := h.at_ .ss
theorem MemAt.js : S[f .js]? = some (.lst [.tup (M.sd false).jour, .tup (M.sd true).jour]) := h.at_ .js
theorem MemAt.r : S[f .r]? = some (.lst M.rows) := h.at_ .r
theorem MemAt.g (d : Bool) : S[f (.g d)]? = some (.ins "Guard" (gdF f d (M.sd d).tix)) := h.at_ (.g d)
theorem MemAt.k (d : Bool) : S[f (.k d)]? = some (.dK false (M.sd d).kept) := h.at_ (.k d)
theorem MemAt.w (d : Bool) : S[f (.w d)]? = some (.lst (M.sd d).wait) := h.at_ (.w d)
theorem MemAt.b (d : Bool) : S[f (.b d)]? = some (.lst (M.sd d).blocks) := h.at_ (.b d)
/-! changes -/
theorem MemAt.setH (xs : List A) : MemAt (S.set (f .h) (.lst xs)) f { M with held := xs } := (h.set .h _).to fun r => by cases r <;> rfl
theorem MemAt.setR (xs : List A) : MemAt (S.set (f .r) (.lst xs)) f { M with rows := xs } := (h.set .r _).to fun r => by cases r <;> rfl
theorem MemAt.setC (c : Int) : MemAt (S.set (f .m) (.ins "Memory" (memF f c))) f { M with count := c } := (h.set .m _).to fun r => by cases r <;> rfl
theorem MemAt.setK (d : Bool) (kvs : List (AK × A)) : MemAt (S.set (f (.k d)) (.dK false kvs)) f (M.setSd d { M.sd d with kept := kvs }) := (h.set (.k d) _).to fun r => by
  cases d <;> cases r <;> first | rfl | (rename_i e; cases e <;> rfl)
theorem MemAt.setW (d : Bool) (xs : List A) : MemAt (S.set (f (.w d)) (.lst xs)) f (M.setSd d { M.sd d with wait := xs }) := (h.set (.w d) _).to fun r => by
  cases d <;> cases r <;> first | rfl | (rename_i e; cases e <;> rfl)
theorem MemAt.setB (d : Bool) (xs : List A) : MemAt (S.set (f (.b d)) (.lst xs)) f (M.setSd d { M.sd d with blocks := xs }) := (h.set (.b d) _).to fun r => by
  cases d <;> cases r <;> first | rfl | (rename_i e; cases e <;> rfl)
theorem MemAt.setT (d : Bool) (t : Int) : MemAt (S.set (f (.g d)) (.ins "Guard" (gdF f d t))) f (M.setSd d { M.sd d with tix := t }) := (h.set (.g d) _).to fun r => by
  cases d <;> cases r <;> first | rfl | (rename_i e; cases e <;> rfl)
theorem MemAt.setJ (d : Bool) (xs : List A) : MemAt (S.set (f .js) (.lst ([A.tup (M.sd false).jour, A.tup (M.sd true).jour].set (if d then 1 else 0) (.tup xs)))) f (M.setSd d { M.sd d with jour := xs }) := (h.set .js _).to fun r => by
  cases d <;> cases r <;> first | rfl | (rename_i e; cases e <;> rfl)
/-- the queue becomes a new list -/
theorem MemAt.moveW (d : Bool) (xs : List A) : MemAt ((S ++ [AO.lst xs]).set (f (.g d)) (.ins "Guard" [("kept", .ref (f (.k d))), ("waiting", .ref S.length), ("tickets", .int (M.sd d).tix)])) (upR f (.w d) S.length) (M.setSd d { M.sd d with wait := xs }) := by
  have h1 := (h.move (.w d) (.lst xs)).set (.g d) (.ins "Guard" [("kept", .ref (f (.k d))), ("waiting", .ref S.length), ("tickets", .int (M.sd d).tix)])
  rw [upR_ne _ _ (by simp)] at h1
  refine h1.to fun r => ?_
  cases d <;> cases r <;> first | rfl | (rename_i e; cases e <;> rfl)
end
end RaM
/-! RaMem2: the guard's and the memory's methods over the record. -/
namespace RaM
open RA RaP L2
/-- a table word or None -/
def isWd (v : A) : Bool := match v with
  | .non => true
  | .tup [.int i, .str s] => decide (0 ≤ i) && decide (i ≤ 5) && (s == "r" || s == "w")
  | _ => false
theorem isWd_of {v : A} (h : isWd v = true) : v = .non ∨ ∃ i s, v = .tup [.int i, .str s] ∧ 0 ≤ i ∧ i ≤ 5 ∧ (s = "r" ∨ s = "w") := by
  unfold isWd at h
  split at h
  · exact .inl rfl
  · rename_i i s
    simp at h
    exact .inr ⟨i, s, rfl, h.1.1, h.1.2, h.2⟩
  · cases h
theorem is_word_d (S : Sto) {v : A} (h : Da v) : a_is_word [v] S = .ok (.bl (isWd v)) S := by
  cases v with
  | non => simp [a_is_word, fnA_d, isWd]
  | int i => simp [a_is_word, fnA_d, isWd]
  | bl b => simp [a_is_word, fnA_d, isWd]
  | str b => simp [a_is_word, fnA_d, isWd]
  | ref n => simp [Da, A.dat'] at h
  | seq n => simp [Da, A.dat'] at h
  | glo n => simp [Da, A.dat'] at h
  | ty n => simp [Da, A.dat'] at h
  | tup xs =>
    have hx := Da.tup.mp h
    match xs, hx with
    | [], _ => simp [a_is_word, fnA_d, isWd]
    | [a], _ => simp [a_is_word, fnA_d, isWd]
    | [a, b], hx =>
      have ha : Da a := hx a (by simp)
      have hb : Da b := hx b (by simp)
      by_cases c : inB a 0 5 = true
      · cases a with
        | int i =>
          cases b with
          | str s =>
            simp only [inB, Bool.and_eq_true, decide_eq_true_eq] at c
            simp [a_is_word, fnA_d, isWd, c.1, c.2]
            by_cases q1 : s = "r"
            · subst q1; decide
            · by_cases q2 : s = "w"
              · subst q2; decide
              · simp [q1, q2, Ne.symm q1, Ne.symm q2]
          | ref n => simp [Da, A.dat'] at hb
          | seq n => simp [Da, A.dat'] at hb
          | glo n => simp [Da, A.dat'] at hb
          | ty n => simp [Da, A.dat'] at hb
          | non =>
            simp only [inB, Bool.and_eq_true, decide_eq_true_eq] at c
            simp [a_is_word, fnA_d, isWd, c.1, c.2]
          | bl n =>
            simp only [inB, Bool.and_eq_true, decide_eq_true_eq] at c
            simp [a_is_word, fnA_d, isWd, c.1, c.2]
          | int n =>
            simp only [inB, Bool.and_eq_true, decide_eq_true_eq] at c
            simp [a_is_word, fnA_d, isWd, c.1, c.2]
          | tup n =>
            simp only [inB, Bool.and_eq_true, decide_eq_true_eq] at c
            simp [a_is_word, fnA_d, isWd, c.1, c.2]
        | _ => cases c
      · have c := Bool.eq_false_iff.mpr c
        have e : isWd (.tup [a, b]) = false := by
          cases q : isWd (.tup [a, b]) with
          | false => rfl
          | true =>
            rcases isWd_of q with z | ⟨i, s, z, h0, h1, _⟩
            · cases z
            · cases z
              simp [inB, h0, h1] at c
        rw [e]
        simp [a_is_word, fnA_d, within_d S _ _ ha, c]
    | a :: b :: c :: r, _ =>
      have : ¬ ((r.length : Int) + 1 + 1 + 1 = 2) := by omega
      simp [a_is_word, fnA_d, isWd, this]
/-! ### the guard -/
def useK (kept : List (AK × A)) (p : Int) (word : A) : List (AK × A) := if (alk (.inl p) kept).isSome = true ∨ word.isNon = true then kept else aput (.inl p) word kept
/-- the frame to which a kept word leads -/
def fr (o : Option A) (right : String) : A := match o with
  | some (.tup [.int i, .str s]) => if s = right then .int i else .non
  | _ => .non
def KeptOk (kept : List (AK × A)) : Prop := ∀ k v, alk k kept = some v → ∃ i s, v = .tup [.int i, .str s] ∧ 0 ≤ i ∧ i ≤ 5
theorem alk_aput {κ : Type} [DecidableEq κ] (k j : κ) (a : A) : ∀ kvs : List (κ × A), alk j (aput k a kvs) = if j = k then some a else alk j kvs := by
  intro kvs
  unfold aput
  by_cases c : (alk k kvs).isSome = true
  · rw [if_pos c]
    induction kvs with
    | nil => simp [alk] at c
    | cons p r ih =>
      obtain ⟨q, b⟩ := p
      simp only [List.map_cons]
      by_cases e : q = k
      · subst e
        simp only [if_true, alk]
        by_cases ej : q = j
        · simp [ej]
        · rw [if_neg ej, if_neg ej, if_neg (Ne.symm ej)]
          by_cases c2 : (alk q r).isSome = true
          · rw [ih c2, if_neg (Ne.symm ej)]
          · have : ∀ (l : List (κ × A)), ¬ (alk q l).isSome = true → l.map (fun kv => if kv.1 = q then (kv.1, a) else kv) = l := by
              intro l
              induction l with
              | nil => intro _; rfl
              | cons x l ih2 =>
                intro h
                obtain ⟨x1, x2⟩ := x
                unfold alk at h
                by_cases hx : x1 = q
                · rw [if_pos hx] at h; simp at h
                · rw [if_neg hx] at h
                  simp only [List.map_cons, if_neg hx, ih2 h]
            rw [this r c2]
      · unfold alk at c
        rw [if_neg e] at c
        rw [if_neg e]
        unfold alk
        rw [ih c]
        by_cases ej : q = j
        · subst ej
          simp [e]
        · simp [ej]
  · rw [if_neg c]
    induction kvs with
    | nil =>
      simp only [List.nil_append, alk]
      by_cases e : k = j
      · simp [e]
      · simp [e, Ne.symm e]
    | cons p r ih =>
      obtain ⟨q, b⟩ := p
      unfold alk at c
      by_cases e : q = k
      · rw [if_pos e] at c; simp at c
      · rw [if_neg e] at c
        simp only [List.cons_append, alk]
        rw [ih c]
        by_cases ej : q = j
        · subst ej; simp [e]
        · simp [ej]
theorem alk_adrop {κ : Type} [DecidableEq κ] (k j : κ) : ∀ kvs : List (κ × A), alk j (adrop k kvs) = if j = k then none else alk j kvs
  | [] => by simp [adrop, alk]
  | (q, b) :: r => by
    have ih := alk_adrop k j r
    unfold adrop at ih ⊢
    rw [List.filter_cons]
    by_cases e : q = k
    · subst e
      simp only [ne_eq, not_true_eq_false, decide_false, Bool.false_eq_true, if_false]
      simp only [ne_eq] at ih
      rw [ih]
      simp only [alk]
      by_cases ej : q = j
      · simp [ej]
      · rw [if_neg ej]
    · simp only [ne_eq, e, not_false_eq_true, decide_true, if_true]
      simp only [ne_eq] at ih
      simp only [alk]
      rw [ih]
      by_cases ej : q = j
      · subst ej; simp [e]
      · simp [ej]
theorem KeptOk.use {kept : List (AK × A)} (h : KeptOk kept) (p : Int) {word : A} (w : isWd word = true) : KeptOk (useK kept p word) := by
  unfold useK
  split
  · exact h
  · rename_i c
    intro k v e
    rw [alk_aput] at e
    split at e
    · cases e
      rcases isWd_of w with rfl | ⟨i, s, rfl, h0, h1, _⟩
      · exact absurd (Or.inr rfl) c
      · exact ⟨i, s, rfl, h0, h1⟩
    · exact h k v e
theorem KeptOk.drop {kept : List (AK × A)} (h : KeptOk kept) (p : AK) : KeptOk (adrop p kept) := fun k v e => by
  rw [alk_adrop] at e
  split at e
  · cases e
  · exact h k v e
section
variable {S : Sto} {f : MR → Nat} {M : Mem}
theorem guard_use (h : MemAt S f M) (d : Bool) (p : Int) (right : String) {word : A} (hk : KeptOk (M.sd d).kept) (hl : (M.sd d).kept.length < 1000) (w : isWd word = true) :
    ∃ S', a_Guard_use [.ref (f (.g d)), .int p, .str right, word] S = .ok (fr (alk (.inl p) (useK (M.sd d).kept p word)) right) S' ∧ MemAt S' f (M.setSd d { M.sd d with kept := useK (M.sd d).kept p word }) ∧ Fr S S' f f := by
  have hlc : (M.sd d).kept.length < 1000000 := by omega
  have hk2 := hk.use p w
  -- behind the first statement
  have rest : ∀ {S' : Sto} {kvs : List (AK × A)}, S'[f (.g d)]? = some (.ins "Guard" (gdF f d (M.sd d).tix)) → S'[f (.k d)]? = some (.dK false kvs) → KeptOk kvs →
      ((ySeq (yAsg (xGet1 (xFld (xVar 0) "kept") (xVar 1)) (gN 4)) (ySeq (yIf (xOrT (xT (xOp aIsN (xVar 4) (xC .non))) (xT (xOp aNe (xOp aIx (xVar 4) (xC (.int 1))) (xVar 2)))) (yRet (xC .non)) (yNext)) (yRet (xOp aIx (xVar 4) (xC (.int 0)))))) [some (.ref (f (.g d))), some (.int p), some (.str right), some word, none] S').end = .ok (fr (alk (.inl p) kvs) right) S' := by
    intro S' kvs h1 h2 h3
    cases e : alk (.inl p) kvs with
    | none => simp [gdF, aFld_e h1, aDic_k h2, aGetD_i h2, e, fr]
    | some v =>
      obtain ⟨i, s, rfl, _⟩ := h3 _ _ e
      by_cases c : s = right
      · simp [gdF, aFld_e h1, aDic_k h2, aGetD_i h2, e, fr, c]
      · simp [gdF, aFld_e h1, aDic_k h2, aGetD_i h2, e, fr, c]
  by_cases c : (alk (.inl p) (M.sd d).kept).isSome = true ∨ word.isNon = true
  · have e : useK (M.sd d).kept p word = (M.sd d).kept := if_pos c
    refine ⟨S, ?_, ?_, Fr.refl⟩
    · have q : (!(alk (Sum.inl p) (M.sd d).kept).isSome && !word.isNon) = false := by
        rcases c with c | c <;> rw [c] <;> simp
      unfold a_Guard_use
      rw [fn4, ySeq_d]
      have e1 : ((yIf (xAndT (xT (xNi (xVar 1) (xFld (xVar 0) "kept"))) (xT (xOp aNotN (xVar 3) (xC .non)))) (yPutK (xFld (xVar 0) "kept") (xVar 1) (xVar 3)) (yNext)) ([some (A.ref (f (.g d))), some (.int p), some (.str right), some word] ++ List.replicate 1 none) S) = .nx [some (.ref (f (.g d))), some (.int p), some (.str right), some word, none] S := by
        cases hq : (alk (Sum.inl p) (M.sd d).kept).isSome
        · rw [hq] at q
          simp at q
          simp [gdF, aFld_e (h.g d), aHas_i (h.k d), hq, q]
        · simp [gdF, aFld_e (h.g d), aHas_i (h.k d), hq]
      rw [e1, thn_nx, rest (h.g d) (h.k d) hk, e]
    · rw [e]
      refine h.to fun r => ?_
      cases d <;> cases r <;> first | rfl | (rename_i e; cases e <;> rfl)
  · have e : useK (M.sd d).kept p word = aput (.inl p) word (M.sd d).kept := if_neg c
    refine ⟨_, ?_, h.setK d _, Fr.set _ _⟩
    have h' := h.setK d (useK (M.sd d).kept p word)
    have q1 : (alk (Sum.inl p) (M.sd d).kept).isSome = false := by
      cases hq : (alk (Sum.inl p) (M.sd d).kept).isSome with
      | false => rfl
      | true => exact absurd (Or.inl hq) c
    have q2 : word.isNon = false := by
      cases hq : word.isNon with
      | false => rfl
      | true => exact absurd (Or.inr hq) c
    unfold a_Guard_use
    rw [fn4, ySeq_d]
    have e1 : ((yIf (xAndT (xT (xNi (xVar 1) (xFld (xVar 0) "kept"))) (xT (xOp aNotN (xVar 3) (xC .non)))) (yPutK (xFld (xVar 0) "kept") (xVar 1) (xVar 3)) (yNext)) ([some (A.ref (f (.g d))), some (.int p), some (.str right), some word] ++ List.replicate 1 none) S) = .nx [some (.ref (f (.g d))), some (.int p), some (.str right), some word, none] (S.set (f (.k d)) (.dK false (useK (M.sd d).kept p word))) := by
      rw [e]
      simp [gdF, aFld_e (h.g d), aHas_i (h.k d), q1, q2, aPutK_i (h.k d), hlc]
    rw [e1, thn_nx, rest (S' := S.set (f (.k d)) (.dK false (useK (M.sd d).kept p word))) (by rw [h'.g d, sd_setSd]) (by rw [h'.k d, sd_setSd]) hk2]
/-- a command -/
theorem guard_command (h : MemAt S f M) (d : Bool) (p : Int) (hl : (M.sd d).wait.length < 1000) :
    ∃ S', a_Guard_command [.ref (f (.g d)), .int p] S = .ok (.int ((M.sd d).tix + 1)) S' ∧ MemAt S' f (M.setSd d { M.sd d with tix := (M.sd d).tix + 1, wait := (M.sd d).wait ++ [.tup [.int p, .int ((M.sd d).tix + 1)]] }) ∧ Fr S S' f f := by
  have h1 := h.setT d ((M.sd d).tix + 1)
  have h2 := h1.setW d ((M.sd d).wait ++ [.tup [.int p, .int ((M.sd d).tix + 1)]])
  have hlc : (M.sd d).wait.length < 1000000 := by omega
  refine ⟨_, ?_, h2.to fun r => ?_, (Fr.set _ _).trans (Fr.set _ _)⟩
  · have g1 := h1.g d
    have w1 := h1.w d
    have g2 := h2.g d
    simp only [sd_setSd] at g1 w1 g2
    simp [a_Guard_command, fnA_d, gdF, aCls_d (h.g d), aFld_e (h.g d), aSFC_e (h.g d)]
    simp only [gdF] at g1 w1 g2
    simp [aFld_e g1, aIsL_d w1, aApp_d w1, hlc, aFld_e g2]
  · cases d <;> cases r <;> first | rfl | (rename_i e; cases e <;> rfl)
/-- the first command is taken -/
theorem guard_drop (h : MemAt S f M) (d : Bool) {p t : Int} {rest : List A} (hw : (M.sd d).wait = .tup [.int p, .int t] :: rest) :
    ∃ S', a_Guard_drop [.ref (f (.g d))] S = .ok (.int t) S' ∧ MemAt S' (upR f (.w d) S.length) (M.setSd d { M.sd d with wait := rest, kept := adrop (.inl p) (M.sd d).kept }) ∧ Fr S S' f (upR f (.w d) S.length) := by
  have hc : cutA (.tup [.int p, .int t] :: rest) (some 1) none = rest := by
    simp [cutA, HT.sIx]
  have h1 := h.moveW d rest
  have g1 := h1.g d
  have k1 := h1.k d
  have ek : upR f (MR.w d) S.length (.k d) = f (.k d) := upR_ne _ _ (by simp)
  have eg : upR f (MR.w d) S.length (.g d) = f (.g d) := upR_ne _ _ (by simp)
  simp only [sd_setSd, ek, eg] at g1 k1
  have hg' := h.app [.lst rest]
  have g0 := MemAt.g hg' d
  have key : ∀ S', S' = (S ++ [AO.lst rest]).set (f (.g d)) (.ins "Guard" [("kept", .ref (f (.k d))), ("waiting", .ref S.length), ("tickets", .int (M.sd d).tix)]) → MemAt S' (upR f (.w d) S.length) (M.setSd d { M.sd d with wait := rest }) →
      S'[f (.g d)]? = some (.ins "Guard" (gdF (upR f (.w d) S.length) d (M.sd d).tix)) → S'[f (.k d)]? = some (.dK false (M.sd d).kept) →
      ∃ S'', a_Guard_drop [.ref (f (.g d))] S = .ok (.int t) S'' ∧ MemAt S'' (upR f (.w d) S.length) (M.setSd d { M.sd d with wait := rest, kept := adrop (.inl p) (M.sd d).kept }) ∧ Fr S' S'' (upR f (.w d) S.length) (upR f (.w d) S.length) := by
    intro S' eS hM hg hk
    have hgd : gdF (upR f (.w d) S.length) d (M.sd d).tix = [("kept", .ref (f (.k d))), ("waiting", .ref S.length), ("tickets", .int (M.sd d).tix)] := by simp [gdF, ek]
    rw [hgd] at hg
    have run : a_Guard_drop [.ref (f (.g d))] S = (((alk (Sum.inl p) (M.sd d).kept).elim (R.ok A.non S') fun v => R.ok v (S'.set (f (.k d)) (.dK false (adrop (Sum.inl p) (M.sd d).kept)))) : R A).bnd fun _ S2 => .ok (.int t) S2 := by
      have w0 := h.w d
      rw [hw] at w0
      have g0' := h.g d
      simp only [gdF] at g0' g0
      simp [a_Guard_drop, fnA_d, aFld_e g0', aTru_l w0, aIx_l w0, aSl_l w0, hc, aSF_e g0, ← eS, aFld_e hg, aDic_k hk, aPop_i hk]
      cases alk (.inl p) (M.sd d).kept <;> simp
    cases e : alk (.inl p) (M.sd d).kept with
    | none =>
      rw [e] at run
      refine ⟨S', run, hM.to fun r => ?_, Fr.refl⟩
      have e2 : adrop (.inl p) (M.sd d).kept = (M.sd d).kept := by
        generalize (M.sd d).kept = l at e ⊢
        induction l with
        | nil => rfl
        | cons x l ih =>
          obtain ⟨q, b⟩ := x
          unfold alk at e
          by_cases c : q = Sum.inl p
          · rw [if_pos c] at e; cases e
          · rw [if_neg c] at e
            have ih := ih e
            unfold adrop at ih ⊢
            rw [List.filter_cons, if_pos (by simpa using c), ih]
      rw [e2]
    | some v =>
      rw [e] at run
      have h2 := hM.setK d (adrop (.inl p) (M.sd d).kept)
      rw [ek] at h2
      refine ⟨_, run, h2.to fun r => ?_, ?_⟩
      · cases d <;> cases r <;> first | rfl | (rename_i e; cases e <;> rfl)
      · have := Fr.set (S := S') (f := upR f (.w d) S.length) (.k d) (.dK false (adrop (.inl p) (M.sd d).kept))
        rw [ek] at this
        exact this
  obtain ⟨S'', a1, a2, a3⟩ := key _ rfl h1 g1 k1
  refine ⟨S'', a1, a2, Fr.trans (Fr.trans (Fr.move (.w d) (.lst rest)) ?_) a3⟩
  have := Fr.set (S := S ++ [AO.lst rest]) (f := upR f (.w d) S.length) (.g d) (.ins "Guard" [("kept", .ref (f (.k d))), ("waiting", .ref S.length), ("tickets", .int (M.sd d).tix)])
  rw [eg] at this
  exact this
theorem guard_drop0 (h : MemAt S f M) (d : Bool) (hw : (M.sd d).wait = []) : a_Guard_drop [.ref (f (.g d))] S = .ok .non S := by
  simp [a_Guard_drop, fnA_d, gdF, aFld_e (h.g d), aTru_l (h.w d), hw]
end
end RaM
/-! RaMem3: one access. -/
namespace RaM
open RA RaP L2
inductive Who where
  | drv | dev | grd
  deriving DecidableEq
def Who.s : Who → String
  | .drv => "driver"
  | .dev => "device"
  | .grd => "guard"
inductive Rq where
  | rd (c : Int) | wr (c : Int) (v : A) | dr (p i : Int) | dw (p i : Int) (v : A) | cmd (p : Int) | drop | fetch (b : Int) (g s : A) | commit (b : Int) (vs : List A) (g s : A) | jrn | tell (rows : List A)
def Rq.l : Rq → List A
  | .rd c => [.str "read", .int c]
  | .wr c v => [.str "write", .int c, v]
  | .dr p i => [.str "dma read", .int p, .int i]
  | .dw p i v => [.str "dma write", .int p, .int i, v]
  | .cmd p => [.str "command", .int p]
  | .drop => [.str "drop"]
  | .fetch b g s => [.str "fetch", .int b, g, s]
  | .commit b vs g s => [.str "commit", .int b, .tup vs, g, s]
  | .jrn => [.str "journal"]
  | .tell rows => [.str "tell", .tup rows]
abbrev Rq.a (q : Rq) : A := .tup q.l
abbrev actA (w : Who) (d : Bool) : A := .tup [.str w.s, .int (di d)]
/-- may be made -/
def may (w : Who) (d : Bool) : Rq → Prop
  | .rd c => 0 ≤ c ∧ c ≤ 69 ∧ (w = .drv ∧ ofDrv (di d) c = true ∨ w = .dev ∧ 48 + 4 * di d ≤ c ∧ c ≤ 51 + 4 * di d)
  | .wr c v => 0 ≤ c ∧ c ≤ 69 ∧ (w = .drv ∧ ofDrv (di d) c = true ∨ w = .dev ∧ 48 + 4 * di d ≤ c ∧ c ≤ 51 + 4 * di d) ∧ Da v
  | .dr p i => w = .dev ∧ 0 ≤ p ∧ p ≤ 5 ∧ 0 ≤ i ∧ i ≤ 3
  | .dw p i v => w = .dev ∧ 0 ≤ p ∧ p ≤ 5 ∧ 0 ≤ i ∧ i ≤ 3 ∧ Da v
  | .cmd p => w = .drv ∧ 0 ≤ p ∧ p ≤ 5
  | .drop => w = .grd
  | .fetch b g s => w = .dev ∧ 0 ≤ b ∧ b ≤ 7 ∧ Da g ∧ Da s
  | .commit b vs g s => w = .dev ∧ 0 ≤ b ∧ b ≤ 7 ∧ vs.length = 4 ∧ (∀ v ∈ vs, Da v) ∧ Da g ∧ Da s
  | .jrn => w = .drv
  | .tell rows => w = .dev ∧ rows.length ≤ 100 ∧ ∀ v ∈ rows, Da v
theorem di_01 (d : Bool) : 0 ≤ di d ∧ di d ≤ 1 := by cases d <;> decide
theorem check_actor_d (S : Sto) (a : A) (w : Who) (d : Bool) (q : Rq) (h : may w d q) : a_Memory_check_actor [a, actA w d, q.a] S = .ok .non S := by
  have hd := di_01 d
  cases q <;> cases w <;> simp [may] at h <;> simp [a_Memory_check_actor, fnA_d, Who.s, Rq.l, aShapes, shGet, shTab, hd.1, hd.2, xShapes]
section
variable {S : Sto} {f : MR → Nat} {M : Mem}
theorem check_cell_d (h : MemAt S f M) (c : Int) (h0 : 0 ≤ c) (h1 : c ≤ 69) : a_Memory_check_cell [.ref (f .m), .int c] S = .ok .non S := by
  simp [a_Memory_check_cell, fnA_d, h0, h1]
theorem check_block_d (h : MemAt S f M) (c : Int) (h0 : 0 ≤ c) (h1 : c ≤ 7) : a_Memory_check_block [.ref (f .m), .int c] S = .ok .non S := by
  simp [a_Memory_check_block, fnA_d, h0, h1]
theorem recv_m (h : MemAt S f M) (m : String) (hm : m ≠ "count" ∧ m ≠ "held" ∧ m ≠ "guards" ∧ m ≠ "stored" ∧ m ≠ "journals" ∧ m ≠ "rows") : aRecv "Memory" m (.ref (f .m)) S = .ok (.ref (f .m)) S := by
  refine aRecv_d h.m ?_
  simp [memF, hm, Ne.symm hm.1, Ne.symm hm.2.1, Ne.symm hm.2.2.1, Ne.symm hm.2.2.2.1, Ne.symm hm.2.2.2.2.1, Ne.symm hm.2.2.2.2.2]
theorem check_request_d (h : MemAt S f M) (w : Who) (d : Bool) (q : Rq) (hm : may w d q) : a_Memory_check_request [.ref (f .m), actA w d, q.a] S = .ok .non S := by
  have hd := di_01 d
  have rc := recv_m h "check_cell" (by decide)
  have rb := recv_m h "check_block" (by decide)
  cases q with
  | rd c =>
    obtain ⟨h0, h1, ⟨rfl, h2⟩ | ⟨rfl, h2, h3⟩⟩ := hm
    · simp [a_Memory_check_request, fnA_d, Who.s, Rq.l, rc, check_cell_d h c h0 h1, h2]
    · simp [a_Memory_check_request, fnA_d, Who.s, Rq.l, rc, check_cell_d h c h0 h1, h2, h3]
  | wr c v =>
    obtain ⟨h0, h1, ⟨rfl, h2⟩ | ⟨rfl, h2, h3⟩, hv⟩ := hm
    · simp [a_Memory_check_request, fnA_d, Who.s, Rq.l, rc, check_cell_d h c h0 h1, h2]
    · simp [a_Memory_check_request, fnA_d, Who.s, Rq.l, rc, check_cell_d h c h0 h1, h2, h3]
  | dr p i =>
    obtain ⟨rfl, h0, h1, h2, h3⟩ := hm
    simp [a_Memory_check_request, fnA_d, Who.s, Rq.l, h0, h1, h2, h3]
  | dw p i v =>
    obtain ⟨rfl, h0, h1, h2, h3, hv⟩ := hm
    simp [a_Memory_check_request, fnA_d, Who.s, Rq.l, h0, h1, h2, h3]
  | cmd p =>
    obtain ⟨rfl, h0, h1⟩ := hm
    simp [a_Memory_check_request, fnA_d, Who.s, Rq.l, h0, h1]
  | drop =>
    obtain rfl := hm
    simp [a_Memory_check_request, fnA_d, Who.s, Rq.l]
  | jrn =>
    obtain rfl := hm
    simp [a_Memory_check_request, fnA_d, Who.s, Rq.l]
  | tell rows =>
    obtain ⟨rfl, h0, h1⟩ := hm
    simp [a_Memory_check_request, fnA_d, Who.s, Rq.l]
  | fetch b g s =>
    obtain ⟨rfl, h0, h1, _⟩ := hm
    simp [a_Memory_check_request, fnA_d, Who.s, Rq.l, rb, check_block_d h b h0 h1]
  | commit b vs g s =>
    obtain ⟨rfl, h0, h1, h2, _⟩ := hm
    simp [a_Memory_check_request, fnA_d, Who.s, Rq.l, rb, check_block_d h b h0 h1, h2]
/-! ### what a request does -/
def wordOf (M : Mem) (d : Bool) (p : Int) : A := match M.held[(56 + 6 * di d + p).toNat]? with
  | some v => if isWd v = true then v else .non
  | none => .non
def useM (M : Mem) (d : Bool) (p : Int) : Mem := M.setSd d { M.sd d with kept := useK (M.sd d).kept p (wordOf M d p) }
def frM (M : Mem) (d : Bool) (p : Int) (right : String) : A := fr (alk (.inl p) (useK (M.sd d).kept p (wordOf M d p))) right
def ex (M : Mem) (d : Bool) : Rq → A × Mem
  | .rd c => (M.held.getD c.toNat .non, M)
  | .wr c v => (.non, { M with held := M.held.set c.toNat v })
  | .dr p i => (match frM M d p "r" with
    | .int n => .tup [M.held.getD (24 * di d + 4 * n + i).toNat .non]
    | _ => .non, useM M d p)
  | .dw p i v => match frM M d p "w" with
    | .int n => (.bl true, { useM M d p with held := M.held.set (24 * di d + 4 * n + i).toNat v })
    | _ => (.bl false, useM M d p)
  | .cmd p => (.int ((M.sd d).tix + 1), M.setSd d { M.sd d with tix := (M.sd d).tix + 1, wait := (M.sd d).wait ++ [.tup [.int p, .int ((M.sd d).tix + 1)]] })
  | .drop => match (M.sd d).wait with
    | .tup [.int p, .int t] :: rest => (.bl true, { M.setSd d { M.sd d with wait := rest, kept := adrop (.inl p) (M.sd d).kept } with held := M.held.set (68 + di d).toNat (.int t) })
    | _ => (.bl false, M)
  | .fetch b _ _ => ((M.sd d).blocks.getD b.toNat .non, M)
  | .commit b vs g s => (.non, M.setSd d { M.sd d with blocks := (M.sd d).blocks.set b.toNat (.tup vs), jour := (M.sd d).jour ++ [.tup [g, s]] })
  | .jrn => (.tup (M.sd d).jour, M)
  | .tell rows => (.non, M.setSd d { M.sd d with jour := rows })
structure WfS (s : Sd) (N : Nat) : Prop where
  kept : KeptOk s.kept
  kl : s.kept.length ≤ N
  wait : ∀ x ∈ s.wait, ∃ p t, x = .tup [.int p, .int t]
  wl : s.wait.length ≤ N
  bl : s.blocks.length = 8
  bd : ∀ x ∈ s.blocks, Da x
  jl : s.jour.length ≤ N + 100
  jd : ∀ x ∈ s.jour, Da x
structure Wf (M : Mem) (N : Nat) : Prop where
  hl : M.held.length = 70
  hd : ∀ x ∈ M.held, Da x
  sd : ∀ d, WfS (M.sd d) N
  rl : M.rows.length ≤ N
theorem held_at (hw : Wf M N) {c : Int} (h0 : 0 ≤ c) (h1 : c ≤ 69) : atI M.held c = some (M.held.getD c.toNat .non) ∧ M.held[c.toNat]? = some (M.held.getD c.toNat .non) ∧ Da (M.held.getD c.toNat .non) := by
  have hl := hw.hl
  have lt : c.toNat < M.held.length := by omega
  have e : M.held[c.toNat]? = some (M.held.getD c.toNat .non) := by
    rw [List.getD_eq_getElem?_getD, List.getElem?_eq_getElem lt]
    rfl
  refine ⟨?_, e, hw.hd _ (List.mem_of_getElem? e)⟩
  rw [atI_n h0 (by omega)]
  exact e
theorem dma_read_d (h : MemAt S f M) (hw : Wf M N) (d : Bool) {n i : Int} (h0 : 0 ≤ n) (h1 : n ≤ 5) (h2 : 0 ≤ i) (h3 : i ≤ 3) : a_Memory_dma_read [.ref (f .m), .int (di d), .int n, .int i] S = .ok (.tup [M.held.getD (24 * di d + 4 * n + i).toNat .non]) S := by
  have hd := di_01 d
  have hc := (held_at hw (c := 24 * di d + 4 * n + i) (by omega) (by omega)).1
  simp [a_Memory_dma_read, fnA_d, aFld_e h.m, memF, aIx_l h.hh, hc]
theorem dma_write_d (h : MemAt S f M) (hw : Wf M N) (d : Bool) {n i : Int} (v : A) (h0 : 0 ≤ n) (h1 : n ≤ 5) (h2 : 0 ≤ i) (h3 : i ≤ 3) :
    a_Memory_dma_write [.ref (f .m), .int (di d), .int n, .int i, v] S = .ok (.bl true) (S.set (f .h) (.lst (M.held.set (24 * di d + 4 * n + i).toNat v))) := by
  have hd := di_01 d
  have hl := hw.hl
  have hc : ixN M.held.length (24 * di d + 4 * n + i) = some (24 * di d + 4 * n + i).toNat := ixN_n (by omega) (by omega)
  simp [a_Memory_dma_write, fnA_d, aFld_e h.m, memF, aSetI_d h.hh hc]
theorem fr_cases {kept : List (AK × A)} (hk : KeptOk kept) (p : AK) (right : String) : fr (alk p kept) right = .non ∨ ∃ n : Int, fr (alk p kept) right = .int n ∧ 0 ≤ n ∧ n ≤ 5 := by
  cases e : alk p kept with
  | none => exact .inl rfl
  | some v =>
    obtain ⟨i, s, rfl, h0, h1⟩ := hk _ _ e
    unfold fr
    simp only
    split
    · exact .inr ⟨i, rfl, h0, h1⟩
    · exact .inl rfl
theorem wordOf_wd (M : Mem) (d : Bool) (p : Int) : isWd (wordOf M d p) = true := by
  unfold wordOf
  split
  · split
    · assumption
    · rfl
  · rfl
/-- but for the queues nothing moves -/
def Sf (f f' : MR → Nat) : Prop := ∀ r, (∀ d, r ≠ .w d) → f' r = f r
theorem Sf.refl : Sf f f := fun _ _ => rfl
theorem Sf.trans {f1 f2 : MR → Nat} (a : Sf f f1) (b : Sf f1 f2) : Sf f f2 := fun r h => (b r h).trans (a r h)
theorem Sf.m {f' : MR → Nat} (a : Sf f f') : f' .m = f .m := a _ (by simp)
theorem useK_len (kept : List (AK × A)) (p : Int) (w : A) : (useK kept p w).length ≤ kept.length + 1 := by
  unfold useK
  split
  · omega
  · unfold aput
    split <;> simp
theorem WfS.mono {s : Sd} {N K : Nat} (h : WfS s N) (l : N ≤ K) : WfS s K := ⟨h.kept, by have := h.kl; omega, h.wait, by have := h.wl; omega, h.bl, h.bd, by have := h.jl; omega, h.jd⟩
theorem Wf.setS (hw : Wf M N) (d : Bool) {s : Sd} {K : Nat} (l : N ≤ K) (h : WfS s K) : Wf (M.setSd d s) K := by
  refine ⟨by rw [setSd_held]; exact hw.hl, by rw [setSd_held]; exact hw.hd, fun e => ?_, by rw [setSd_rows]; have := hw.rl; omega⟩
  by_cases c : e = d
  · subst c
    rw [sd_setSd]
    exact h
  · rw [sd_setSd_ne _ _ c]
    exact (hw.sd e).mono l
theorem Wf.use (hw : Wf M N) (d : Bool) (p : Int) : Wf (useM M d p) (N + 1) := by
  have a := hw.sd d
  exact hw.setS d (Nat.le_succ _) ⟨a.kept.use p (wordOf_wd M d p), by have := useK_len (M.sd d).kept p (wordOf M d p); have := a.kl; simp only; omega, a.wait, by have := a.wl; simp only; omega, a.bl, a.bd, by have := a.jl; simp only; omega, a.jd⟩
theorem Wf.setHeld (hw : Wf M N) (c : Nat) {v : A} (hv : Da v) : Wf { M with held := M.held.set c v } N := by
  refine ⟨by simp [hw.hl], fun x hx => ?_, fun d => by have := hw.sd d; cases d <;> exact this, hw.rl⟩
  rcases List.mem_or_eq_of_mem_set hx with z | z
  · exact hw.hd x z
  · rw [z]; exact hv
theorem Wf.ex (hw : Wf M N) {w : Who} {d : Bool} {q : Rq} (hm : may w d q) : Wf (ex M d q).2 (N + 1) := by
  have a := hw.sd d
  have mono : Wf M (N + 1) := ⟨hw.hl, hw.hd, fun e => (hw.sd e).mono (Nat.le_succ _), by have := hw.rl; omega⟩
  cases q with
  | rd c => exact mono
  | wr c v => exact mono.setHeld _ hm.2.2.2
  | dr p i => exact hw.use d p
  | dw p i v =>
    simp only [RaM.ex]
    split
    · rename_i n _
      have b := (hw.use d p).setHeld (24 * di d + 4 * n + i).toNat hm.2.2.2.2.2
      rw [show (useM M d p).held = M.held from setSd_held _ _ _] at b
      exact b
    · exact hw.use d p
  | cmd p =>
    refine hw.setS d (Nat.le_succ _) ⟨a.kept, by have := a.kl; simp only; omega, fun x hx => ?_, by have := a.wl; simp; omega, a.bl, a.bd, by have := a.jl; simp only; omega, a.jd⟩
    rcases List.mem_append.mp hx with z | z
    · exact a.wait x z
    · exact ⟨_, _, List.mem_singleton.mp z⟩
  | drop =>
    simp only [RaM.ex]
    split
    · rename_i p t rest e
      have b := (hw.setS d (Nat.le_succ _) (s := { M.sd d with wait := rest, kept := adrop (.inl p) (M.sd d).kept }) ⟨a.kept.drop _, ?_, fun x hx => a.wait x (by rw [e]; exact List.mem_cons_of_mem _ hx), ?_, a.bl, a.bd, by have := a.jl; simp only; omega, a.jd⟩).setHeld (68 + di d).toNat (Da.int t)
      · rw [setSd_held] at b
        exact b
      · have := a.kl
        have := List.length_filter_le (fun kv : AK × A => decide (kv.1 ≠ Sum.inl p)) (M.sd d).kept
        unfold adrop
        simp only
        omega
      · have := a.wl
        rw [e] at this
        simp only [List.length_cons] at this
        simp only
        omega
    · exact mono
  | fetch b g s => exact mono
  | commit b vs g s =>
    obtain ⟨_, h0, h1, h2, h3, h4, h5⟩ := hm
    refine hw.setS d (Nat.le_succ _) ⟨a.kept, by have := a.kl; simp only; omega, a.wait, by have := a.wl; simp only; omega, by simp [a.bl], fun x hx => ?_, by have := a.jl; simp; omega, fun x hx => ?_⟩
    · rcases List.mem_or_eq_of_mem_set hx with z | z
      · exact a.bd x z
      · rw [z]; exact Da.tup.mpr h3
    · rcases List.mem_append.mp hx with z | z
      · exact a.jd x z
      · rw [List.mem_singleton.mp z]
        exact Da.tup.mpr (by simp only [List.mem_cons, List.not_mem_nil, or_false, forall_eq_or_imp, forall_eq]; exact ⟨h4, h5⟩)
  | jrn => exact mono
  | tell rows => exact hw.setS d (Nat.le_succ _) ⟨a.kept, by have := a.kl; simp only; omega, a.wait, by have := a.wl; simp only; omega, a.bl, a.bd, by have := hm.2.1; simp only; omega, hm.2.2⟩
/-- the words and calls behind a dma -/
theorem dma_pre (h : MemAt S f M) (hw : Wf M N) (d : Bool) (p : Int) (h0 : 0 ≤ p) (h1 : p ≤ 5) : ∃ v, atI M.held (56 + 6 * di d + p) = some v ∧ a_is_word [v] S = .ok (.bl (isWd v)) S ∧ wordOf M d p = (if isWd v = true then v else .non) ∧
    atI [A.ref (f (.g false)), A.ref (f (.g true))] (di d) = some (.ref (f (.g d))) := by
  have hd := di_01 d
  have hp := held_at hw (c := 56 + 6 * di d + p) (by omega) (by omega)
  refine ⟨_, hp.1, is_word_d S hp.2.2, ?_, by cases d <;> rfl⟩
  unfold wordOf
  rw [hp.2.1]
theorem ex_ok (h : MemAt S f M) (hw : Wf M N) (hN : N < 900) (w : Who) (d : Bool) (q : Rq) (hm : may w d q) :
    ∃ S' f', a_Memory_result [.ref (f .m), .int (di d), q.a] S = .ok (ex M d q).1 S' ∧ MemAt S' f' (ex M d q).2 ∧ Fr S S' f f' ∧ Sf f f' := by
  have hd := di_01 d
  cases q with
  | rd c =>
    obtain ⟨h0, h1, _⟩ := hm
    refine ⟨S, f, ?_, h, Fr.refl, Sf.refl⟩
    simp [a_Memory_result, fnA_d, Rq.l, aFld_e h.m, memF, aIx_l h.hh, (held_at hw h0 h1).1, ex]
  | wr c v =>
    obtain ⟨h0, h1, _⟩ := hm
    have hl := hw.hl
    have hc : ixN M.held.length c = some c.toNat := ixN_n h0 (by omega)
    refine ⟨_, f, ?_, h.setH _, Fr.set _ _, Sf.refl⟩
    simp [a_Memory_result, fnA_d, Rq.l, aFld_e h.m, memF, aSetI_d h.hh hc, ex]
  | cmd p =>
    obtain ⟨S', e, h1, h2⟩ := guard_command h d p (by have := (hw.sd d).wl; omega)
    refine ⟨S', f, ?_, h1, h2, Sf.refl⟩
    have hg := h.gs
    cases d
    · simp [a_Memory_result, fnA_d, Rq.l, aFld_e h.m, memF, aIx_l hg, aRecv_e (h.g false), gdF, e, ex]
    · simp [a_Memory_result, fnA_d, Rq.l, aFld_e h.m, memF, aIx_l hg, aRecv_e (h.g true), gdF, e, ex]
  | jrn =>
    refine ⟨S, f, ?_, h, Fr.refl, Sf.refl⟩
    cases d <;> simp [a_Memory_result, fnA_d, Rq.l, aFld_e h.m, memF, aIx_l h.js, ex]
  | tell rows =>
    have hj := h.setJ d rows
    refine ⟨_, f, ?_, hj, Fr.set _ _, Sf.refl⟩
    have hc : ixN [A.tup (M.sd false).jour, A.tup (M.sd true).jour].length (di d) = some (if d then 1 else 0) := by cases d <;> rfl
    simp [a_Memory_result, fnA_d, Rq.l, aFld_e h.m, memF, aSetI_d h.js hc, ex]
  | fetch b g s =>
    obtain ⟨_, h0, h1, _⟩ := hm
    have hb := (hw.sd d).bl
    have e : atI (M.sd d).blocks b = some ((M.sd d).blocks.getD b.toNat .non) := by
      rw [atI_n h0 (by omega), List.getD_eq_getElem?_getD, List.getElem?_eq_getElem (by omega)]
      rfl
    refine ⟨S, f, ?_, h, Fr.refl, Sf.refl⟩
    cases d
    · simp [a_Memory_result, a_Memory_device_result, fnA_d, Rq.l, aFld_e h.m, memF, aIx_l h.ss, aIx_l (h.b false), recv_m h, e, ex]
    · simp [a_Memory_result, a_Memory_device_result, fnA_d, Rq.l, aFld_e h.m, memF, aIx_l h.ss, aIx_l (h.b true), recv_m h, e, ex]
  | commit b vs g s =>
    obtain ⟨_, h0, h1, _⟩ := hm
    have hb := (hw.sd d).bl
    have hc : ixN (M.sd d).blocks.length b = some b.toNat := ixN_n h0 (by omega)
    have h1 := h.setB d ((M.sd d).blocks.set b.toNat (.tup vs))
    have h2 := h1.setJ d ((M.sd d).jour ++ [.tup [g, s]])
    have m1 := h1.m
    have j1 := h1.js
    have hjl : ixN [A.tup (M.sd false).jour, A.tup (M.sd true).jour].length (di d) = some (if d then 1 else 0) := by cases d <;> rfl
    have hjb : (M.sd d).jour.length + 1 ≤ 1000000 := by have := (hw.sd d).jl; omega
    refine ⟨_, f, ?_, h2.to fun r => ?_, (Fr.set _ _).trans (Fr.set _ _), Sf.refl⟩
    · cases d
      · simp only [Mem.sd, Mem.setSd, memF] at m1 j1 hjb
        simp only [Mem.sd] at hjl hc
        simp [a_Memory_result, a_Memory_device_result, fnA_d, Rq.l, aFld_e h.m, memF, aIx_l h.ss, recv_m h, aSetI_d (h.b false) hc, aFld_e m1, aIx_l j1, hjb, aSetI_d j1 (show ixN [A.tup M.s0.jour, A.tup M.s1.jour].length 0 = some 0 from rfl), ex, Mem.sd, Mem.setSd]
      · simp only [Mem.sd, Mem.setSd, memF] at m1 j1 hjb
        simp only [Mem.sd] at hjl hc
        simp [a_Memory_result, a_Memory_device_result, fnA_d, Rq.l, aFld_e h.m, memF, aIx_l h.ss, recv_m h, aSetI_d (h.b true) hc, aFld_e m1, aIx_l j1, hjb, aSetI_d j1 (show ixN [A.tup M.s0.jour, A.tup M.s1.jour].length 1 = some 1 from rfl), ex, Mem.sd, Mem.setSd]
    · cases d <;> cases r <;> first | rfl | (rename_i e; cases e <;> rfl)
  | drop =>
    have hg := h.gs
    cases ew : (M.sd d).wait with
    | nil =>
      have e := guard_drop0 h d ew
      refine ⟨S, f, ?_, by simp only [ex, ew]; exact h, Fr.refl, Sf.refl⟩
      cases d
      · simp [a_Memory_result, a_Memory_drop, fnA_d, Rq.l, recv_m h, aFld_e h.m, memF, aIx_l hg, aRecv_e (h.g false), gdF, e, ex, ew]
      · simp [a_Memory_result, a_Memory_drop, fnA_d, Rq.l, recv_m h, aFld_e h.m, memF, aIx_l hg, aRecv_e (h.g true), gdF, e, ex, ew]
    | cons x rest =>
      obtain ⟨p, t, rfl⟩ := (hw.sd d).wait x (by rw [ew]; simp)
      obtain ⟨S', e, h1, h2⟩ := guard_drop h d ew
      have hl := hw.hl
      have h3 := h1.setH (M.held.set (68 + di d).toNat (.int t))
      have m1 := h1.m
      have hh1 := h1.hh
      have hc : ixN M.held.length (68 + di d) = some (68 + di d).toNat := ixN_n (by omega) (by omega)
      have un : ∀ r, (∀ d, r ≠ .w d) → upR f (.w d) S.length r = f r := fun r hr => upR_ne _ _ (hr d)
      simp only [memF, un .m (by simp), un .h (by simp), un .gs (by simp), un .ss (by simp), un .js (by simp), un .r (by simp), setSd_count] at m1
      simp only [un .h (by simp), setSd_held] at hh1
      refine ⟨_, _, ?_, by simp only [ex, ew]; exact h3, h2.trans (Fr.set _ _), un⟩
      rw [un .h (by simp)]
      cases d
      · simp [a_Memory_result, a_Memory_drop, fnA_d, Rq.l, recv_m h, aFld_e h.m, memF, aIx_l hg, aRecv_e (h.g false), gdF, e, ex, ew, aFld_e m1, aSetI_d hh1 (show ixN M.held.length 68 = some 68 from hc)]
      · simp [a_Memory_result, a_Memory_drop, fnA_d, Rq.l, recv_m h, aFld_e h.m, memF, aIx_l hg, aRecv_e (h.g true), gdF, e, ex, ew, aFld_e m1, aSetI_d hh1 (show ixN M.held.length 69 = some 69 from hc)]
  | dr p i =>
    obtain ⟨_, h0, h1, h2, h3⟩ := hm
    obtain ⟨S', e, hM, hF⟩ := guard_use h d p "r" (hw.sd d).kept (by have := (hw.sd d).kl; omega) (wordOf_wd M d p)
    have hM' : MemAt S' f (useM M d p) := hM
    have hw' := Wf.use hw d p
    have hg := h.gs
    obtain ⟨v0, p1, p2, p3, p4⟩ := dma_pre h hw d p h0 h1
    have hh : (useM M d p).held = M.held := setSd_held _ _ _
    have mm := recv_m hM' "dma_read" (by decide)
    have key : ∀ x, fr (alk (.inl p) (useK (M.sd d).kept p (wordOf M d p))) "r" = x → ∀ y, a_Memory_dma_read [.ref (f .m), .int (di d), x, .int i] S' = .ok y S' → a_Memory_result [.ref (f .m), .int (di d), (Rq.dr p i).a] S = .ok y S' := by
      intro x hx y hy
      rw [hx] at e
      cases c : isWd v0 with
      | true =>
        rw [c] at p2 p3
        rw [if_pos rfl] at p3
        rw [p3] at e
        simp [a_Memory_result, a_Memory_device_result, fnA_d, Rq.l, recv_m h, aFld_e h.m, memF, aIx_l h.hh, p1, p2, aIx_l hg, p4, aRecv_e (h.g d), gdF, e, mm, hy]
      | false =>
        rw [c] at p2 p3
        rw [if_neg (by simp)] at p3
        rw [p3] at e
        simp [a_Memory_result, a_Memory_device_result, fnA_d, Rq.l, recv_m h, aFld_e h.m, memF, aIx_l h.hh, p1, p2, aIx_l hg, p4, aRecv_e (h.g d), gdF, e, mm, hy]
    refine ⟨S', f, ?_, hM', hF, Sf.refl⟩
    rcases fr_cases ((hw.sd d).kept.use p (wordOf_wd M d p)) (.inl p) "r" with q | ⟨n, q, q0, q1⟩
    · refine key _ q _ ?_
      simp [a_Memory_dma_read, fnA_d, ex, frM, q]
    · refine key _ q _ ?_
      have rd := dma_read_d hM' hw' d (n := n) (i := i) q0 q1 h2 h3
      rw [hh] at rd
      rw [rd]
      simp [ex, frM, q]
  | dw p i v =>
    obtain ⟨_, h0, h1, h2, h3, _⟩ := hm
    obtain ⟨S', e, hM, hF⟩ := guard_use h d p "w" (hw.sd d).kept (by have := (hw.sd d).kl; omega) (wordOf_wd M d p)
    have hM' : MemAt S' f (useM M d p) := hM
    have hw' := Wf.use hw d p
    have hg := h.gs
    obtain ⟨v0, p1, p2, p3, p4⟩ := dma_pre h hw d p h0 h1
    have hh : (useM M d p).held = M.held := setSd_held _ _ _
    have mm := recv_m hM' "dma_write" (by decide)
    have key : ∀ x, fr (alk (.inl p) (useK (M.sd d).kept p (wordOf M d p))) "w" = x → ∀ y S2, a_Memory_dma_write [.ref (f .m), .int (di d), x, .int i, v] S' = .ok y S2 → a_Memory_result [.ref (f .m), .int (di d), (Rq.dw p i v).a] S = .ok y S2 := by
      intro x hx y S2 hy
      rw [hx] at e
      cases c : isWd v0 with
      | true =>
        rw [c] at p2 p3
        rw [if_pos rfl] at p3
        rw [p3] at e
        simp [a_Memory_result, a_Memory_device_result, fnA_d, Rq.l, recv_m h, aFld_e h.m, memF, aIx_l h.hh, p1, p2, aIx_l hg, p4, aRecv_e (h.g d), gdF, e, mm, hy]
      | false =>
        rw [c] at p2 p3
        rw [if_neg (by simp)] at p3
        rw [p3] at e
        simp [a_Memory_result, a_Memory_device_result, fnA_d, Rq.l, recv_m h, aFld_e h.m, memF, aIx_l h.hh, p1, p2, aIx_l hg, p4, aRecv_e (h.g d), gdF, e, mm, hy]
    rcases fr_cases ((hw.sd d).kept.use p (wordOf_wd M d p)) (.inl p) "w" with q | ⟨n, q, q0, q1⟩
    · have q2 : frM M d p "w" = .non := q
      refine ⟨S', f, key _ q _ _ ?_, by simp only [ex, q2]; exact hM', hF, Sf.refl⟩
      simp [a_Memory_dma_write, fnA_d, ex, frM, q]
    · have q2 : frM M d p "w" = .int n := q
      have wr := dma_write_d hM' hw' d (n := n) (i := i) v q0 q1 h2 h3
      rw [hh] at wr
      refine ⟨_, f, key _ q _ _ ?_, by simp only [ex, q2]; exact hM'.setH _, hF.trans (Fr.set _ _), Sf.refl⟩
      rw [wr]
      simp [ex, q2]
end
end RaM
/-! RaMem4: the access whole; a new memory. -/
namespace RaM
open RA RaP L2
def exC (c : Int) (M : Mem) : Mem := { M with count := c }
theorem ex_c (M : Mem) (c : Int) (d : Bool) (q : Rq) : ex { M with count := c } d q = ((ex M d q).1, { (ex M d q).2 with count := c }) := by
  cases q with
  | dw p i v =>
    have e : frM { M with count := c } d p "w" = frM M d p "w" := by cases d <;> rfl
    simp only [ex, e]
    split <;> cases d <;> rfl
  | dr p i =>
    have e : frM { M with count := c } d p "r" = frM M d p "r" := by cases d <;> rfl
    simp only [ex, e]
    cases d <;> rfl
  | drop =>
    have e : ({ M with count := c } : Mem).sd d = M.sd d := by cases d <;> rfl
    simp only [ex, e]
    split <;> cases d <;> rfl
  | _ => cases d <;> rfl
theorem ex_rows (M : Mem) (d : Bool) (q : Rq) : (ex M d q).2.rows = M.rows := by
  cases q with
  | dw p i v => simp only [ex]; split <;> cases d <;> rfl
  | drop => simp only [ex]; split <;> cases d <;> rfl
  | _ => cases d <;> rfl
theorem ex_count (M : Mem) (d : Bool) (q : Rq) : (ex M d q).2.count = M.count := by
  cases q with
  | dw p i v => simp only [ex]; split <;> cases d <;> rfl
  | drop => simp only [ex]; split <;> cases d <;> rfl
  | _ => cases d <;> rfl
/-- the record behind an access -/
def acc (M : Mem) (w : Who) (d : Bool) (q : Rq) : Mem := { (ex M d q).2 with count := M.count + 1, rows := M.rows ++ [.tup [.int (M.count + 1), actA w d, q.a, (ex M d q).1]] }
section
variable {S : Sto} {f : MR → Nat} {M : Mem} {N : Nat}
theorem Wf.acc (hw : Wf M N) {w : Who} {d : Bool} {q : Rq} (hm : may w d q) : Wf (acc M w d q) (N + 1) := by
  have a := hw.ex hm
  refine ⟨a.hl, a.hd, fun e => ?_, ?_⟩
  · have := a.sd e
    cases e <;> exact this
  · simp only [RaM.acc, List.length_append, List.length_cons, List.length_nil]
    have := hw.rl
    omega
theorem access_ok (h : MemAt S f M) (hw : Wf M N) (hN : N < 900) (w : Who) (d : Bool) (q : Rq) (hm : may w d q) :
    ∃ S' f', a_Memory_access [.ref (f .m), actA w d, q.a] S = .ok (.tup [(ex M d q).1, .int (M.count + 1)]) S' ∧ MemAt S' f' (acc M w d q) ∧ Fr S S' f f' ∧ Sf f f' := by
  have h1 := h.setC (M.count + 1)
  have hw1 : Wf { M with count := M.count + 1 } N := ⟨hw.hl, hw.hd, fun e => by have := hw.sd e; cases e <;> exact this, hw.rl⟩
  obtain ⟨S2, f2, e, hM2, hF2, hs2⟩ := ex_ok h1 hw1 hN w d q hm
  rw [ex_c] at e hM2
  have h3 := hM2.setR (M.rows ++ [.tup [.int (M.count + 1), actA w d, q.a, (ex M d q).1]])
  have h1m := h1.m
  simp only [memF] at h1m
  have m2 := hM2.m
  have m3 := h3.m
  have r2 := hM2.r
  simp only [memF, hs2.m, hs2 .h (by simp), hs2 .gs (by simp), hs2 .ss (by simp), hs2 .js (by simp), hs2 .r (by simp)] at m2 m3
  rw [hs2 .r (by simp)] at r2 h3
  simp only [ex_rows] at r2
  refine ⟨_, f2, ?_, h3, (Fr.set _ _).trans (hF2.trans ?_), hs2⟩
  · have hl : M.rows.length < 1000000 := by have := hw.rl; omega
    simp only [memF] at e
    simp [a_Memory_access, fnA_d, recv_m h, check_actor_d S _ w d q hm, check_request_d h w d q hm, memF, aCls_d h.m, aFld_e h.m, aSFC_e h.m, aRecv_e h1m, e, aFld_e m2, aIsL_d r2, aApp_d r2, hl, aFld_e m3]
  · have := Fr.set (S := S2) (f := f2) .r (.lst (M.rows ++ [.tup [.int (M.count + 1), actA w d, q.a, (ex M d q).1]]))
    rw [hs2 .r (by simp)] at this
    exact this
end
/-! ### a new memory -/
def sd0 : Sd := { kept := [], wait := [], tix := 0, blocks := List.replicate 8 (.tup [.int 0, .int 0, .int 0, .int 0]), jour := [] }
def held0 : List A := List.replicate 8 .non ++ (List.replicate 16 (.int 0) ++ (List.replicate 8 .non ++ (List.replicate 24 (.int 0) ++ (List.replicate 12 .non ++ List.replicate 2 (.int 0)))))
def mem0 : Mem := { count := 0, held := held0, s0 := sd0, s1 := sd0, rows := [] }
def f0 (b : Nat) : MR → Nat
  | .m => b
  | .h => b + 2
  | .gs => b + 3
  | .g false => b + 4
  | .k false => b + 5
  | .w false => b + 6
  | .g true => b + 7
  | .k true => b + 8
  | .w true => b + 9
  | .ss => b + 10
  | .b false => b + 12
  | .b true => b + 14
  | .js => b + 15
  | .r => b + 16
def new0 (b : Nat) : Sto := [.ins "Memory" (memF (f0 b) 0), .lst [.int 0], .lst held0, .lst [.ref (b + 4), .ref (b + 7)], .ins "Guard" (gdF (f0 b) false 0), .dK false [], .lst [], .ins "Guard" (gdF (f0 b) true 0), .dK false [], .lst [],
  .lst [.ref (b + 12), .ref (b + 14)], .lst [.tup [.int 0, .int 0, .int 0, .int 0]], .lst (List.replicate 8 (.tup [.int 0, .int 0, .int 0, .int 0])), .lst [.tup [.int 0, .int 0, .int 0, .int 0]], .lst (List.replicate 8 (.tup [.int 0, .int 0, .int 0, .int 0])), .lst [.tup [], .tup []], .lst []]
theorem mem0_at (S : Sto) : MemAt (S ++ new0 S.length) (f0 S.length) mem0 := by
  have g : ∀ k o, (new0 S.length)[k]? = some o → (S ++ new0 S.length)[S.length + k]? = some o := fun k o e => by
    rw [List.getElem?_append_right (by omega), Nat.add_sub_cancel_left, e]
  refine ⟨fun r => ?_, fun r j e => ?_⟩
  · cases r with
    | m => exact g 0 _ rfl
    | h => exact g 2 _ rfl
    | gs => exact g 3 _ rfl
    | ss => exact g 10 _ rfl
    | js => exact g 15 _ rfl
    | r => exact g 16 _ rfl
    | g d => cases d; exact g 4 _ rfl; exact g 7 _ rfl
    | k d => cases d; exact g 5 _ rfl; exact g 8 _ rfl
    | w d => cases d; exact g 6 _ rfl; exact g 9 _ rfl
    | b d => cases d; exact g 12 _ rfl; exact g 14 _ rfl
  · cases r <;> cases j <;> first
      | rfl
      | (simp only [f0] at e; exact absurd e (by omega))
      | (rename_i d; cases d <;> simp only [f0] at e <;> exact absurd e (by omega))
      | (rename_i d k; cases d <;> cases k <;> first | rfl | (simp only [f0] at e; exact absurd e (by omega)))
theorem wf_sd0 : WfS sd0 0 := by
  refine ⟨fun k v e => by simp [sd0, alk] at e, by simp [sd0], by simp [sd0], by simp [sd0], by simp [sd0], fun x hx => ?_, by simp [sd0], by simp [sd0]⟩
  rw [(List.mem_replicate.mp hx).2]
  rfl
theorem wf_mem0 : Wf mem0 0 := by
  refine ⟨rfl, ?_, fun d => by cases d <;> exact wf_sd0, by simp [mem0]⟩
  have : ∀ x ∈ mem0.held, A.dat' x = true := by decide
  exact this
end RaM
/-! RaMem5: loops over a range; the tape; a new memory's run. -/
namespace RaM
open RA RaP L2
/-! ### loops -/
theorem loop_inv {src : Src} {t : TA'} {f : AY} {n : Nat} (P : Nat → Slo → Sto → Prop) (g : Nat → A) (hs : ∀ S i, i < n → src S i = some (some (g i))) (he : ∀ S, src S n = some none)
    (step : ∀ i as S, i < n → P i as S → ∃ as1 S1 as2 S2, t (g i) as S = .ok as1 S1 ∧ (f as1 S1 = .nx as2 S2 ∨ f as1 S1 = .ct as2 S2) ∧ P (i + 1) as2 S2) :
    ∀ k i as S, i + k = n → P i as S → ∃ as' S', loopF src t f (k + 1) i as S = .nx as' S' ∧ P n as' S'
  | 0, i, as, S, e, h => by
    have : i = n := by omega
    subst this
    exact ⟨as, S, by simp [loopF, he], h⟩
  | k + 1, i, as, S, e, h => by
    obtain ⟨as1, S1, as2, S2, q1, q2, q3⟩ := step i as S (by omega) h
    obtain ⟨as', S', r1, r2⟩ := loop_inv P g hs he step k (i + 1) as2 S2 (by omega) q3
    refine ⟨as', S', ?_, r2⟩
    rw [loopF]
    simp only [hs S i (by omega), q1]
    rcases q2 with q2 | q2 <;> simp only [q2] <;> exact r1
theorem for_r1 {fs : AA} {j : Nat} {f : AY} {as : Slo} {S S1 : Sto} {m : Int} (P : Nat → Slo → Sto → Prop) (hf : fs as S = .ok [.int m] S1) (hm : -1000000 ≤ m ∧ m ≤ 1000000) (h0 : P 0 as S1)
    (step : ∀ i as S, i < m.toNat → P i as S → ∃ as2 S2, (f (as.set j (some (.int i))) S = .nx as2 S2 ∨ f (as.set j (some (.int i))) S = .ct as2 S2) ∧ P (i + 1) as2 S2) :
    ∃ as' S', yFor (iaR1 fs) (gN j) f as S = .nx as' S' ∧ P m.toNat as' S' := by
  obtain ⟨as', S', q1, q2⟩ := loop_inv (src := srcR 0 m.toNat) (t := gN j) (f := f) (n := m.toNat) P (fun i => .int i) (fun S i h => by simp only [srcR, if_pos h]; simp) (fun S => by simp only [srcR, if_neg (Nat.lt_irrefl _)])
    (fun i as S hi hp => by
      obtain ⟨as2, S2, a, b⟩ := step i as S hi hp
      exact ⟨_, _, as2, S2, rfl, a, b⟩) m.toNat 0 as S1 (by omega) h0
  refine ⟨as', S', ?_, q2⟩
  unfold yFor iaR1
  rw [hf]
  simp only [bnd_ok, aRng1, hm.1, hm.2, decide_true, Bool.and_self, if_true, sbd_ok]
  exact q1
theorem for_r2 {fs : AA} {j : Nat} {f : AY} {as : Slo} {S S1 : Sto} {l m : Int} (P : Nat → Slo → Sto → Prop) (hf : fs as S = .ok [.int l, .int m] S1) (hl : -1000000 ≤ l ∧ l ≤ 1000000) (hm : -1000000 ≤ m ∧ m ≤ 1000000) (h0 : P 0 as S1)
    (step : ∀ i as S, i < (m - l).toNat → P i as S → ∃ as2 S2, (f (as.set j (some (.int (l + i)))) S = .nx as2 S2 ∨ f (as.set j (some (.int (l + i)))) S = .ct as2 S2) ∧ P (i + 1) as2 S2) :
    ∃ as' S', yFor (iaR2 fs) (gN j) f as S = .nx as' S' ∧ P (m - l).toNat as' S' := by
  obtain ⟨as', S', q1, q2⟩ := loop_inv (src := srcR l (m - l).toNat) (t := gN j) (f := f) (n := (m - l).toNat) P (fun i => .int (l + i)) (fun S i h => by simp only [srcR, if_pos h]) (fun S => by simp only [srcR, if_neg (Nat.lt_irrefl _)])
    (fun i as S hi hp => by
      obtain ⟨as2, S2, a, b⟩ := step i as S hi hp
      exact ⟨_, _, as2, S2, rfl, a, b⟩) (m - l).toNat 0 as S1 (by omega) h0
  refine ⟨as', S', ?_, q2⟩
  unfold yFor iaR2
  rw [hf]
  simp only [bnd_ok, aRng2, hm.1, hm.2, hl.1, hl.2, decide_true, Bool.and_self, if_true, sbd_ok]
  exact q1
/-! ### the first values -/
def setN (l : List A) (m : Nat) : Nat → List A
  | 0 => l
  | k + 1 => (setN l m k).set (m + k) .non
theorem setN_len (l : List A) (m : Nat) : ∀ k, (setN l m k).length = l.length
  | 0 => rfl
  | k + 1 => by simp [setN, setN_len l m k]
def setD (l : List A) : Nat → List A
  | 0 => l
  | d + 1 => setN (setN (setD l d) (24 * d) 8) (56 + 6 * d) 6
theorem setD_len (l : List A) : ∀ k, (setD l k).length = l.length
  | 0 => rfl
  | k + 1 => by simp [setD, setN_len, setD_len l k]
theorem setD_held : setD (List.replicate 70 (.int 0)) 2 = held0 := rfl
theorem set_at {S : Sto} {n : Nat} {l : AO} (h : S[n]? = some l) : S.set n l = S := by
  apply List.ext_getElem?
  intro i
  rw [List.getElem?_set]
  split
  · subst n
    split
    · exact h.symm
    · rename_i q
      rw [List.getElem?_eq_none (by omega)]
  · rfl
theorem at_set {S : Sto} {n : Nat} {l x : AO} (h : S[n]? = some l) : (S.set n x)[n]? = some x := by
  rw [List.getElem?_set_self (List.getElem?_eq_some_iff.mp h).1]
theorem fv1 {S : Sto} {n d : Nat} {l : List A} {b c : Option A} (h : S[n]? = some (.lst l)) (hl : l.length = 70) (hd : d < 2) :
    ∃ b2 c2, yFor (iaR2 (xCons (xCall a_frame_cell (xCons (xVar 1) (xCons (xC (.int 0)) (xCons (xC (.int 0)) (xNil))))) (xCons (xCall a_frame_cell (xCons (xVar 1) (xCons (xC (.int 2)) (xCons (xC (.int 0)) (xNil))))) (xNil)))) (gN 2) (yAsg (xC .non) (gSb (xVar 0) (xVar 2))) [some (.ref n), some (.int d), b, c] S =
      .nx [some (.ref n), some (.int d), b2, c2] (S.set n (.lst (setN l (24 * d) 8))) := by
  obtain ⟨as2, S2, p1, b2, c2, p2, p3⟩ := for_r2 (fs := (xCons (xCall a_frame_cell (xCons (xVar 1) (xCons (xC (.int 0)) (xCons (xC (.int 0)) (xNil))))) (xCons (xCall a_frame_cell (xCons (xVar 1) (xCons (xC (.int 2)) (xCons (xC (.int 0)) (xNil))))) (xNil)))) (j := 2) (l := 24 * d) (m := 24 * d + 8)
    (S := S) (S1 := S) (as := [some (.ref n), some (.int d), b, c]) (f := (yAsg (xC .non) (gSb (xVar 0) (xVar 2))))
    (fun k as S' => ∃ b c, as = [some (.ref n), some (.int d), b, c] ∧ S' = S.set n (.lst (setN l (24 * d) k))) (by simp) (by omega) (by omega) ⟨_, _, rfl, (set_at h).symm⟩
    (fun k as S1 hk ⟨b, c, e1, e2⟩ => by
      subst e1 e2
      have hk : k < 8 := by omega
      have hix : ixN (setN l (24 * d) k).length (24 * (d : Int) + k) = some (24 * d + k) := by
        rw [setN_len, hl, ixN_n (by omega) (by omega)]
        congr 1
      refine ⟨[some (.ref n), some (.int d), some (.int (24 * (d : Int) + k)), c], S.set n (.lst (setN l (24 * d) (k + 1))), .inl ?_, _, _, rfl, rfl⟩
      simp [aSetI_d (at_set h) hix, setN])
  have e8 : (24 * (d : Int) + 8 - 24 * d).toNat = 8 := by omega
  rw [e8] at p3
  subst p2 p3
  exact ⟨_, _, p1⟩
theorem fv2 {S : Sto} {n d : Nat} {l : List A} {b c : Option A} (h : S[n]? = some (.lst l)) (hl : l.length = 70) (hd : d < 2) :
    ∃ b2 c2, yFor (iaR1 (xCons (xC (.int 6)) (xNil))) (gN 3) (yAsg (xC .non) (gSb (xVar 0) (xCall a_table_word (xCons (xVar 1) (xCons (xVar 3) (xNil)))))) [some (.ref n), some (.int d), b, c] S =
      .nx [some (.ref n), some (.int d), b2, c2] (S.set n (.lst (setN l (56 + 6 * d) 6))) := by
  obtain ⟨as2, S2, p1, b2, c2, p2, p3⟩ := for_r1 (fs := (xCons (xC (.int 6)) (xNil))) (j := 3) (m := 6)
    (S := S) (S1 := S) (as := [some (.ref n), some (.int d), b, c]) (f := (yAsg (xC .non) (gSb (xVar 0) (xCall a_table_word (xCons (xVar 1) (xCons (xVar 3) (xNil)))))))
    (fun k as S' => ∃ b c, as = [some (.ref n), some (.int d), b, c] ∧ S' = S.set n (.lst (setN l (56 + 6 * d) k))) (by simp) (by omega) ⟨_, _, rfl, (set_at h).symm⟩
    (fun k as S1 hk ⟨b, c, e1, e2⟩ => by
      subst e1 e2
      have hk : k < 6 := by omega
      have hix : ixN (setN l (56 + 6 * d) k).length (56 + 6 * (d : Int) + k) = some (56 + 6 * d + k) := by
        rw [setN_len, hl, ixN_n (by omega) (by omega)]
        congr 1
      refine ⟨[some (.ref n), some (.int d), b, some (.int k)], S.set n (.lst (setN l (56 + 6 * d) (k + 1))), .inl ?_, _, _, rfl, rfl⟩
      simp [aSetI_d (at_set h) hix, setN])
  have e8 : (6 : Int).toNat = 6 := by decide
  rw [e8] at p3
  subst p2 p3
  exact ⟨_, _, p1⟩
theorem fv3 {S : Sto} {n : Nat} {l : List A} (h : S[n]? = some (.lst l)) (hl : l.length = 70) :
    ∃ a b c, yFor (iaR1 (xCons (xC (.int 2)) (xNil))) (gN 1) (ySeq (yFor (iaR2 (xCons (xCall a_frame_cell (xCons (xVar 1) (xCons (xC (.int 0)) (xCons (xC (.int 0)) (xNil))))) (xCons (xCall a_frame_cell (xCons (xVar 1) (xCons (xC (.int 2)) (xCons (xC (.int 0)) (xNil))))) (xNil)))) (gN 2) (yAsg (xC .non) (gSb (xVar 0) (xVar 2)))) (yFor (iaR1 (xCons (xC (.int 6)) (xNil))) (gN 3) (yAsg (xC .non) (gSb (xVar 0) (xCall a_table_word (xCons (xVar 1) (xCons (xVar 3) (xNil)))))))) [some (.ref n), none, none, none] S =
      .nx [some (.ref n), a, b, c] (S.set n (.lst (setD l 2))) := by
  obtain ⟨as2, S2, p1, a, b2, c2, p2, p3⟩ := for_r1 (fs := (xCons (xC (.int 2)) (xNil))) (j := 1) (m := 2)
    (S := S) (S1 := S) (as := [some (.ref n), none, none, none]) (f := (ySeq (yFor (iaR2 (xCons (xCall a_frame_cell (xCons (xVar 1) (xCons (xC (.int 0)) (xCons (xC (.int 0)) (xNil))))) (xCons (xCall a_frame_cell (xCons (xVar 1) (xCons (xC (.int 2)) (xCons (xC (.int 0)) (xNil))))) (xNil)))) (gN 2) (yAsg (xC .non) (gSb (xVar 0) (xVar 2)))) (yFor (iaR1 (xCons (xC (.int 6)) (xNil))) (gN 3) (yAsg (xC .non) (gSb (xVar 0) (xCall a_table_word (xCons (xVar 1) (xCons (xVar 3) (xNil)))))))))
    (fun k as S' => ∃ a b c, as = [some (.ref n), a, b, c] ∧ S' = S.set n (.lst (setD l k))) (by simp) (by omega) ⟨_, _, _, rfl, (set_at h).symm⟩
    (fun k as S1 hk ⟨a, b, c, e1, e2⟩ => by
      subst e1 e2
      have hk : k < 2 := by omega
      obtain ⟨b2, c2, q⟩ := fv1 (d := k) (b := b) (c := c) (at_set h (x := .lst (setD l k))) (by rw [setD_len, hl]) hk
      rw [List.set_set] at q
      obtain ⟨b3, c3, q3⟩ := fv2 (d := k) (b := b2) (c := c2) (at_set h (x := .lst (setN (setD l k) (24 * k) 8))) (by rw [setN_len, setD_len, hl]) hk
      rw [List.set_set] at q3
      refine ⟨[some (.ref n), some (.int k), b3, c3], S.set n (.lst (setD l (k + 1))), .inl ?_, _, _, _, rfl, rfl⟩
      simp only [List.set_cons_succ, List.set_cons_zero]
      rw [ySeq_d, q, thn_nx, q3]
      rfl)
  have e8 : (2 : Int).toNat = 2 := by decide
  rw [e8] at p3
  subst p2 p3
  exact ⟨_, _, _, p1⟩
theorem first_values_d (S : Sto) : a_first_values [] S = .ok (.ref (S.length + 1)) (S ++ [.lst [.int 0], .lst held0]) := by
  have e0 : (S ++ [AO.lst [.int 0]])[S.length]? = some (.lst [.int 0]) := by simp
  have e1 : (S ++ [AO.lst [.int 0], .lst (List.replicate 70 (.int 0))])[S.length + 1]? = some (.lst (List.replicate 70 (.int 0))) := by simp
  have e2 : (S ++ [AO.lst [.int 0], .lst (List.replicate 70 (.int 0))]).set (S.length + 1) (.lst held0) = S ++ [.lst [.int 0], .lst held0] := by simp
  have e3 : (List.replicate (Int.toNat 70) [A.int 0]).flatten = List.replicate 70 (.int 0) := rfl
  obtain ⟨a, b, c, q⟩ := fv3 e1 List.length_replicate
  rw [setD_held, e2] at q
  have p0 : (yAsg (xOp aMul (xLst (xCons (xC (.int 0)) (xNil))) (xC (.int 70))) (gN 0)) [none, none, none, none] S = .nx [some (.ref (S.length + 1)), none, none, none] (S ++ [AO.lst [.int 0], .lst (List.replicate 70 (.int 0))]) := by
    simp only [yAsg_d, xOp_d, xLst_d, xCons_d, xNil_d, xC_d, bnd_ok, aLst_d, List.length_cons, List.length_nil]
    rw [if_pos (by omega)]
    simp only [bnd_ok, aMul_l e0]
    rw [if_pos (by decide), e3]
    simp
  unfold a_first_values
  rw [fn0]
  show O.end (ySeq _ _ [none, none, none, none] S) = _
  rw [ySeq_d, p0, thn_nx, ySeq_d, q, thn_nx]
  rfl
theorem at_app (S l : Sto) (k : Nat) : (S ++ l)[S.length + k]? = l[k]? := by
  rw [List.getElem?_append_right (by omega), Nat.add_sub_cancel_left]
theorem at_app0 (S l : Sto) : (S ++ l)[S.length]? = l[0]? := at_app S l 0
theorem set_app (S l : Sto) (k : Nat) (x : AO) : (S ++ l).set (S.length + k) x = S ++ l.set k x := by
  rw [List.set_append_right _ _ (by omega), Nat.add_sub_cancel_left]
theorem set_app0 (S l : Sto) (x : AO) : (S ++ l).set S.length x = S ++ l.set 0 x := set_app S l 0 x
theorem guard_new (S : Sto) : aMake "Guard" a_Guard_init [] S = .ok (.ref S.length) (S ++ [.ins "Guard" [("kept", .ref (S.length + 1)), ("waiting", .ref (S.length + 2)), ("tickets", .int 0)], .dK false [], .lst []]) := by
  simp [aMake_d, a_Guard_init, fnA_d, aSFN, at_app0, at_app, set_app0, set_app]
theorem memory_new (S : Sto) : aMake "Memory" a_Memory_init [] S = .ok (.ref S.length) (S ++ new0 S.length) := by
  rw [aMake_d]
  simp [a_Memory_init, fnA_d, aSFN, at_app0, at_app, set_app0, set_app, first_values_d, xLc, iaR1, aRng1, aComp, compF, srcR, wipA, xYes, guard_new, aMul, new0, memF, gdF, f0, cap]
/-! ### the tape -/
def tapeF : FA := fnA 1 4 (ySeq (yAsg (xLst (xNil)) (gN 1)) (ySeq (yFor (iaR1 (xCons (xCall bLen (xCons (xVar 0) (xNil))) (xNil))) (gN 2) (ySeq (yAsg (xCall bAbs (xCons (xCall bInt (xCons (xOp aIx (xVar 0) (xVar 2)) (xNil))) (xNil))) (gN 3)) (yIf (xT (xOp aGe (xVar 3) (xOp aPow (xC (.int 10)) (xC (.int 18))))) (yFor (iaR1 (xCons (xC (.int 60)) (xNil))) (gN 4) (yIf (xT (xOp aGt (xVar 3) (xC (.int 0)))) (ySeq (yDrop (xApp (xVar 1) (xCons (xOp aMod (xVar 3) (xC (.int 1000))) (xNil)))) (yAsg (xOp aDiv (xVar 3) (xC (.int 1000))) (gN 3))) (yNext))) (yFor (iaR1 (xCons (xC (.int 4)) (xNil))) (gN 4) (ySeq (yAsg (xOp aMod (xOp aAdd (xOp aAdd (xOp aMul (xVar 3) (xC (.int 48271))) (xOp aMul (xC (.int 69621)) (xOp aAdd (xVar 2) (xC (.int 1))))) (xOp aMul (xC (.int 7)) (xVar 4))) (xC (.int 2147483647))) (gN 3)) (ySeq (yAsg (xOp aMod (xOp aMul (xVar 3) (xC (.int 16807))) (xC (.int 2147483647))) (gN 3)) (yDrop (xApp (xVar 1) (xCons (xOp aMod (xOp aDiv (xVar 3) (xC (.int 1000))) (xC (.int 1000))) (xNil)))))))))) (yRet (xVar 1))))
def lawAtF : FA := fnA 2 0 (ySeq (yIf (xT (xOp aLt (xVar 1) (xCall bLen (xCons (xVar 0) (xNil))))) (yRet (xOp aIx (xVar 0) (xVar 1))) (yNext)) (yRet (xC (.int 0))))

def Tape (l : List A) : Prop := ∀ x ∈ l, ∃ i : Int, x = .int i ∧ 0 ≤ i
theorem Tape.add {l : List A} (h : Tape l) {i : Int} (hi : 0 ≤ i) : Tape (l ++ [.int i]) := fun x hx => by
  rcases List.mem_append.mp hx with z | z
  · exact h x z
  · exact ⟨i, List.mem_singleton.mp z, hi⟩
theorem tape_d (ns : List Int) (hn : ns.length ≤ 63) : ∃ l, tapeF [.seq (ns.map .int)] [] = .ok (.ref 0) [.lst l] ∧ Tape l ∧ l.length ≤ 60 * ns.length := by
  obtain ⟨as', S', p1, a, b, c, l, p2, p3, p4, p5⟩ := for_r1 (fs := (xCons (xCall bLen (xCons (xVar 0) (xNil))) (xNil))) (j := 2) (m := ns.length) (S := [.lst []]) (S1 := [.lst []]) (as := [some (.seq (ns.map .int)), some (.ref 0), none, none, none])
    (f := (ySeq (yAsg (xCall bAbs (xCons (xCall bInt (xCons (xOp aIx (xVar 0) (xVar 2)) (xNil))) (xNil))) (gN 3)) (yIf (xT (xOp aGe (xVar 3) (xOp aPow (xC (.int 10)) (xC (.int 18))))) (yFor (iaR1 (xCons (xC (.int 60)) (xNil))) (gN 4) (yIf (xT (xOp aGt (xVar 3) (xC (.int 0)))) (ySeq (yDrop (xApp (xVar 1) (xCons (xOp aMod (xVar 3) (xC (.int 1000))) (xNil)))) (yAsg (xOp aDiv (xVar 3) (xC (.int 1000))) (gN 3))) (yNext))) (yFor (iaR1 (xCons (xC (.int 4)) (xNil))) (gN 4) (ySeq (yAsg (xOp aMod (xOp aAdd (xOp aAdd (xOp aMul (xVar 3) (xC (.int 48271))) (xOp aMul (xC (.int 69621)) (xOp aAdd (xVar 2) (xC (.int 1))))) (xOp aMul (xC (.int 7)) (xVar 4))) (xC (.int 2147483647))) (gN 3)) (ySeq (yAsg (xOp aMod (xOp aMul (xVar 3) (xC (.int 16807))) (xC (.int 2147483647))) (gN 3)) (yDrop (xApp (xVar 1) (xCons (xOp aMod (xOp aDiv (xVar 3) (xC (.int 1000))) (xC (.int 1000))) (xNil))))))))))
    (fun i as S => ∃ a b c l, as = [some (.seq (ns.map .int)), some (.ref 0), a, b, c] ∧ S = [.lst l] ∧ Tape l ∧ l.length ≤ 60 * i) (by simp) (by omega) ⟨_, _, _, [], rfl, rfl, fun x hx => by simp at hx, by simp⟩
    (fun i as S hi ⟨a, b, c, l, e1, e2, ht, hl⟩ => by
      subst e1 e2
      have hi : i < ns.length := by omega
      have hat : atI (ns.map A.int) i = some (.int ns[i]) := by
        rw [atI_n (by omega) (by simpa using hi)]
        simp [hi]
      generalize ns[i] = v at hat
      generalize hw : (if v < 0 then -v else v) = w
      have hw0 : 0 ≤ w := by split at hw <;> omega
      have p0 : (yAsg (xCall bAbs (xCons (xCall bInt (xCons (xOp aIx (xVar 0) (xVar 2)) (xNil))) (xNil))) (gN 3)) [some (.seq (ns.map .int)), some (.ref 0), some (.int i), b, c] [.lst l] = .nx [some (.seq (ns.map .int)), some (.ref 0), some (.int i), some (.int w), c] [.lst l] := by
        simp [hat, hw]
      simp only [List.set_cons_succ, List.set_cons_zero, ySeq_d, p0, thn_nx]
      by_cases q : 1000000000000000000 ≤ w
      · obtain ⟨as', S', p1, w', c, l', p2, p3, p4, p5, p6⟩ := for_r1 (fs := (xCons (xC (.int 60)) (xNil))) (j := 4) (m := 60) (S := [.lst l]) (S1 := [.lst l]) (as := [some (.seq (ns.map .int)), some (.ref 0), some (.int i), some (.int w), c])
          (f := (yIf (xT (xOp aGt (xVar 3) (xC (.int 0)))) (ySeq (yDrop (xApp (xVar 1) (xCons (xOp aMod (xVar 3) (xC (.int 1000))) (xNil)))) (yAsg (xOp aDiv (xVar 3) (xC (.int 1000))) (gN 3))) (yNext)))
          (fun k as S => ∃ (w : Int) (c : Option A) (l' : List A), as = [some (.seq (ns.map .int)), some (.ref 0), some (.int i), some (.int w), c] ∧ S = [.lst l'] ∧ Tape l' ∧ l'.length ≤ l.length + k ∧ 0 ≤ w) (by simp) (by omega) ⟨_, _, l, rfl, rfl, ht, by omega, hw0⟩
          (fun k as S hk ⟨w, c, l', e1, e2, ht, hl', hw0⟩ => by
            subst e1 e2
            have hk : k < 60 := by omega
            by_cases z : 0 < w
            · refine ⟨[some (.seq (ns.map .int)), some (.ref 0), some (.int i), some (.int (w / 1000)), some (.int k)], [.lst (l' ++ [.int (w % 1000)])], .inl ?_, _, _, _, rfl, rfl, ht.add (by omega), by simp; omega, by omega⟩
              have : l'.length < 1000000 := by omega
              have h0 : ([AO.lst l'] : Sto)[0]? = some (.lst l') := rfl
              simp [z, aIsL_d h0, aApp_d h0, this]
            · refine ⟨[some (.seq (ns.map .int)), some (.ref 0), some (.int i), some (.int w), some (.int k)], [.lst l'], .inl ?_, _, _, _, rfl, rfl, ht, by omega, hw0⟩
              simp [z])
        subst p2 p3
        refine ⟨[some (.seq (ns.map .int)), some (.ref 0), some (.int i), some (.int w'), c], _, .inl ?_, _, _, _, l', rfl, rfl, p4, ?_⟩
        · simp only [yIf_d, xT_d, xOp_d, xVar_d, xC_d, bnd_ok]
          simp [q]
          exact p1
        · have : (60 : Int).toNat = 60 := by decide
          omega
      · obtain ⟨as', S', p1, w', c, l', p2, p3, p4, p5⟩ := for_r1 (fs := (xCons (xC (.int 4)) (xNil))) (j := 4) (m := 4) (S := [.lst l]) (S1 := [.lst l]) (as := [some (.seq (ns.map .int)), some (.ref 0), some (.int i), some (.int w), c])
          (f := (ySeq (yAsg (xOp aMod (xOp aAdd (xOp aAdd (xOp aMul (xVar 3) (xC (.int 48271))) (xOp aMul (xC (.int 69621)) (xOp aAdd (xVar 2) (xC (.int 1))))) (xOp aMul (xC (.int 7)) (xVar 4))) (xC (.int 2147483647))) (gN 3)) (ySeq (yAsg (xOp aMod (xOp aMul (xVar 3) (xC (.int 16807))) (xC (.int 2147483647))) (gN 3)) (yDrop (xApp (xVar 1) (xCons (xOp aMod (xOp aDiv (xVar 3) (xC (.int 1000))) (xC (.int 1000))) (xNil)))))))
          (fun k as S => ∃ (w : Int) (c : Option A) (l' : List A), as = [some (.seq (ns.map .int)), some (.ref 0), some (.int i), some (.int w), c] ∧ S = [.lst l'] ∧ Tape l' ∧ l'.length ≤ l.length + k) (by simp) (by omega) ⟨_, _, l, rfl, rfl, ht, by omega⟩
          (fun k as S hk ⟨w, c, l', e1, e2, ht, hl'⟩ => by
            subst e1 e2
            have hk : k < 4 := by omega
            have h0 : ([AO.lst l'] : Sto)[0]? = some (.lst l') := rfl
            have : l'.length < 1000000 := by omega
            generalize hz : (w * 48271 + 69621 * ((i : Int) + 1) + 7 * (k : Int)) % 2147483647 * 16807 % 2147483647 = z
            refine ⟨[some (.seq (ns.map .int)), some (.ref 0), some (.int i), some (.int z), some (.int k)], [.lst (l' ++ [.int (z / 1000 % 1000)])], .inl ?_, _, _, _, rfl, rfl, ht.add (Int.emod_nonneg _ (by decide)), by simp; omega⟩
            simp [aIsL_d h0, aApp_d h0, this, hz])
        subst p2 p3
        refine ⟨[some (.seq (ns.map .int)), some (.ref 0), some (.int i), some (.int w'), c], _, .inl ?_, _, _, _, l', rfl, rfl, p4, ?_⟩
        · simp only [yIf_d, xT_d, xOp_d, xVar_d, xC_d, bnd_ok]
          simp [q]
          exact p1
        · have : (4 : Int).toNat = 4 := by decide
          omega)
  subst p2 p3
  refine ⟨l, ?_, p4, by omega⟩
  unfold tapeF
  rw [fn1]
  simp only [ySeq_d, yAsg_d, xLst_d, xNil_d, bnd_ok, aLst_d, List.length_nil]
  rw [if_pos (by omega)]
  simp only [sbd_ok, gN_d, calm_ok, thn_nx, List.nil_append, List.replicate, List.cons_append, List.set_cons_succ, List.set_cons_zero]
  rw [ySeq_d, p1, thn_nx]
  simp
/-- a number of the tape -/
theorem at_d {S : Sto} {n : Nat} {l : List A} (h : S[n]? = some (.lst l)) (ht : Tape l) (i : Nat) : ∃ v : Int, lawAtF [.ref n, .int i] S = .ok (.int v) S ∧ 0 ≤ v := by
  by_cases c : i < l.length
  · obtain ⟨v, e, h0⟩ := ht _ (List.getElem_mem c)
    refine ⟨v, ?_, h0⟩
    have hat : atI l i = some (.int v) := by
      rw [atI_n (by omega) (by omega), Int.toNat_natCast, List.getElem?_eq_getElem c, e]
    simp [lawAtF, fnA_d, bLen_l h, c, aIx_l h, hat]
  · refine ⟨0, ?_, by omega⟩
    simp [lawAtF, fnA_d, bLen_l h, c]
end RaM
/-! RaMem6: comprehensions, peeks, equality of plain data. -/
namespace RaM
open RA RaP L2
open PySem (PyData)
/-! ### comprehensions without effects -/
def compL {α : Type} (c : Nat → Bool) (e : Nat → α) : Nat → Nat → List α
  | _, 0 => []
  | i, k + 1 => (if c i = true then [e i] else []) ++ compL c e (i + 1) k
theorem compL_len {α : Type} (c : Nat → Bool) (e : Nat → α) : ∀ k i, (compL c e i k).length ≤ k
  | 0, i => by simp [compL]
  | k + 1, i => by
    have := compL_len c e k (i + 1)
    unfold compL
    split <;> simp <;> omega
theorem compL_mem {α : Type} {c : Nat → Bool} {e : Nat → α} {x : α} : ∀ {k i}, x ∈ compL c e i k ↔ ∃ j, i ≤ j ∧ j < i + k ∧ c j = true ∧ x = e j
  | 0, i => by
    simp [compL]
    intro j h1 h2
    omega
  | k + 1, i => by
    unfold compL
    rw [List.mem_append, compL_mem]
    constructor
    · rintro (h | ⟨j, a, b, d, q⟩)
      · split at h
        · rename_i hc
          exact ⟨i, by omega, by omega, hc, List.mem_singleton.mp h⟩
        · cases h
      · exact ⟨j, by omega, by omega, d, q⟩
    · rintro ⟨j, a, b, d, q⟩
      by_cases h : j = i
      · subst h
        left
        rw [if_pos d, q]
        simp
      · exact .inr ⟨j, by omega, by omega, d, q⟩
theorem compL_map {α β : Type} (c : Nat → Bool) (e : Nat → α) (h : α → β) : ∀ k i, compL c (fun i => h (e i)) i k = (compL c e i k).map h
  | 0, i => rfl
  | k + 1, i => by
    unfold compL
    rw [compL_map c e h k (i + 1), List.map_append]
    split <;> rfl
theorem compF_pure {src : Src} {t : TA'} {tt : AT} {te : AE} {as0 : Slo} {n : Nat} (S0 : Sto) (g : Nat → A) (c : Nat → Bool) (e : Nat → A)
    (hs : ∀ acc i, i < n → src (S0 ++ [.lst acc]) i = some (some (g i))) (he : ∀ acc, src (S0 ++ [.lst acc]) n = some none) (hn : n < 1000000)
    (h : ∀ acc i, i < n → ∃ as1, t (g i) as0 (S0 ++ [.lst acc]) = .ok as1 (S0 ++ [.lst acc]) ∧ tt as1 (S0 ++ [.lst acc]) = .ok (c i) (S0 ++ [.lst acc]) ∧ (c i = true → te as1 (S0 ++ [.lst acc]) = .ok (e i) (S0 ++ [.lst acc]))) :
    ∀ k i acc, i + k = n → acc.length ≤ i → compF src t tt te S0.length as0 (k + 1) i (S0 ++ [.lst acc]) = .ok () (S0 ++ [.lst (acc ++ compL c e i k)])
  | 0, i, acc, hi, ha => by
    have : i = n := by omega
    subst this
    simp [compF, he, compL]
  | k + 1, i, acc, hi, ha => by
    obtain ⟨as1, h1, h2, h3⟩ := h acc i (by omega)
    rw [compF]
    simp only [hs acc i (by omega), h1, h2]
    cases hc : c i with
    | false =>
      simp only
      rw [compF_pure S0 g c e hs he hn h k (i + 1) acc (by omega) (by omega)]
      simp [compL, hc]
    | true =>
      simp only [h3 hc, at_app0, set_app0, List.getElem?_cons_zero, List.set_cons_zero]
      rw [if_pos (by show acc.length < 1000000; omega), compF_pure S0 g c e hs he hn h k (i + 1) _ (by omega) (by simp; omega)]
      simp [compL, hc]
theorem comp_r1 {n : Nat} {j : Nat} {tt : AT} {te : AE} {as : Slo} (S : Sto) (c : Nat → Bool) (e : Nat → A) (hn : n < 1000000)
    (h : ∀ acc i, i < n → tt ((as.set j none).set j (some (.int i))) (S ++ [.lst acc]) = .ok (c i) (S ++ [.lst acc]) ∧ (c i = true → te ((as.set j none).set j (some (.int i))) (S ++ [.lst acc]) = .ok (e i) (S ++ [.lst acc]))) :
    xLc (iaR1 (xCons (xC (.int n)) (xNil))) (gN j) tt te [j] as S = .ok (.ref S.length) (S ++ [.lst (compL c e 0 n)]) := by
  have hn1 : (-1000000 : Int) ≤ n := by omega
  have hn2 : (n : Int) ≤ 1000000 := by omega
  have := compF_pure (src := srcR 0 n) (t := gN j) (tt := tt) (te := te) (as0 := as.set j none) (n := n) S (fun i => .int i) c e (fun acc i hi => by simp only [srcR, if_pos hi]; simp) (fun acc => by simp only [srcR, if_neg (Nat.lt_irrefl _)]) hn
    (fun acc i hi => ⟨_, rfl, h acc i hi⟩) n 0 [] (by omega) (by simp)
  unfold xLc iaR1
  simp only [xCons_d, xNil_d, xC_d, bnd_ok, aRng1, hn1, hn2, decide_true, Bool.and_self, if_true, aComp, wipA, Int.toNat_natCast, this]
  simp
theorem comp_l {r : Nat} {xs : List A} {j : Nat} {fe : AE} {tt : AT} {te : AE} {as : Slo} (S : Sto) (c : Nat → Bool) (e : Nat → A) (hf : fe as S = .ok (.ref r) S) (hr : S[r]? = some (.lst xs)) (hn : xs.length < 1000000)
    (h : ∀ acc i x, xs[i]? = some x → tt ((as.set j none).set j (some x)) (S ++ [.lst acc]) = .ok (c i) (S ++ [.lst acc]) ∧ (c i = true → te ((as.set j none).set j (some x)) (S ++ [.lst acc]) = .ok (e i) (S ++ [.lst acc]))) :
    xLc (iaL fe) (gN j) tt te [j] as S = .ok (.ref S.length) (S ++ [.lst (compL c e 0 xs.length)]) := by
  have hlt := (List.getElem?_eq_some_iff.mp hr).1
  have hr' : ∀ acc, (S ++ [AO.lst acc])[r]? = some (.lst xs) := fun acc => by rw [List.getElem?_append_left hlt, hr]
  have := compF_pure (src := srcL r) (t := gN j) (tt := tt) (te := te) (as0 := as.set j none) (n := xs.length) S (fun i => xs.getD i .non) c e (fun acc i hi => by simp only [srcL, hr']; simp [hi]) (fun acc => by simp only [srcL, hr']; simp) hn
    (fun acc i hi => by
      have hx : xs[i]? = some (xs.getD i .non) := by rw [List.getD_eq_getElem?_getD, List.getElem?_eq_getElem hi]; rfl
      exact ⟨_, rfl, h acc i _ hx⟩) xs.length 0 [] (by omega) (by simp)
  unfold xLc iaL
  simp only [hf, bnd_ok, aItL, hr, aComp, wipA, this]
  simp
/-! ### peeks -/
section
variable {S : Sto} {f : MR → Nat} {M : Mem} {N : Nat}
theorem peek_d (h : MemAt S f M) (hw : Wf M N) {c : Int} (h0 : 0 ≤ c) (h1 : c ≤ 69) : a_Memory_peek [.ref (f .m), .int c] S = .ok (M.held.getD c.toNat .non) S := by
  simp [a_Memory_peek, fnA_d, recv_m h, check_cell_d h c h0 h1, aFld_e h.m, memF, aIx_l h.hh, (held_at hw h0 h1).1]
end
/-! ### cells of frames as data -/
def Cel (k : Int) (x : A) : Prop := (∃ a b c : Int, x = .tup [.int a, .int b, .int c]) ∨ ∃ j : Int, j < k ∧ x = .tup [.str "mark", .int j]
def cv (x : A) : PyData := (A.dat (fun _ => none) x).getD .none
theorem Cel.dat {k : Int} {x : A} (h : Cel k x) (rf : Nat → Option PyData) : A.dat rf x = some (cv x) ∧ (cv x).depth ≤ 3 ∧ PyData.eqv (cv x) (cv x) = true := by
  rcases h with ⟨a, b, c, rfl⟩ | ⟨j, _, rfl⟩
  · simp [cv, A.dat, A.dats, PyData.depth, PyData.depthAll, PyData.eqv, PyData.eqvAll]
  · simp [cv, A.dat, A.dats, PyData.depth, PyData.depthAll, PyData.eqv, PyData.eqvAll]
theorem Cel.mono {k j : Int} {x : A} (h : Cel k x) (hk : k ≤ j) : Cel j x := by
  rcases h with h | ⟨i, hi, e⟩
  · exact .inl h
  · exact .inr ⟨i, by omega, e⟩
def celB (x y : A) : Bool := PyData.eqv (cv x) (cv y)
theorem Cel.eq {k j : Int} {x y : A} (hx : Cel k x) (hy : Cel j y) (S : Sto) : aEq x y S = .ok (.bl (celB x y)) S := by
  have a := hx.dat (refD S 4)
  have b := hy.dat (refD S 4)
  simp only [aEq, aEqB, toD, a.1, b.1]
  rw [if_pos (by omega)]
  rfl
theorem Cel.refl {k : Int} {x : A} (hx : Cel k x) : celB x x = true := (hx.dat fun _ => none).2.2
theorem Cel.mark {k : Int} {x : A} (hx : Cel k x) : celB x (.tup [.str "mark", .int k]) = false := by
  rcases hx with ⟨a, b, c, rfl⟩ | ⟨j, hj, rfl⟩
  · simp [celB, cv, A.dat, A.dats, PyData.eqv, PyData.eqvAll]
  · have : ¬ j = k := by omega
    simp [celB, cv, A.dat, A.dats, PyData.eqv, PyData.eqvAll, this]
theorem cel_mark (k : Int) : Cel (k + 1) (.tup [.str "mark", .int k]) := .inr ⟨k, by omega, rfl⟩
theorem toD_lst {S : Sto} {n : Nat} {xs : List A} {ds : List PyData} (hn : S[n]? = some (.lst xs)) (e : A.dats (refD S 3) xs = some ds) : toD S (.ref n) = some (.list ds) := by
  unfold toD
  show refD S 4 n = _
  rw [refD]
  simp only [hn, e]
theorem cels_dats {k : Int} (rf : Nat → Option PyData) : ∀ {xs : List A}, (∀ x ∈ xs, Cel k x) → A.dats rf xs = some (xs.map cv) ∧ PyData.depthAll (xs.map cv) ≤ 3 ∧ PyData.eqvAll (xs.map cv) (xs.map cv) = true
  | [], _ => by simp [A.dats, PyData.depthAll, PyData.eqvAll]
  | x :: xs, h => by
    have a := (h x (by simp)).dat rf
    have b := cels_dats rf (xs := xs) fun y hy => h y (by simp [hy])
    simp only [A.dats, a.1, b.1, List.map_cons, PyData.depthAll, PyData.eqvAll, a.2.2, b.2.2]
    exact ⟨trivial, by omega, rfl⟩
/-- lists of the same cells -/
theorem cels_ne {k : Int} {S : Sto} {n m : Nat} {xs : List A} (h : ∀ x ∈ xs, Cel k x) (hn : S[n]? = some (.lst xs)) (hm : S[m]? = some (.lst xs)) : aNe (.ref n) (.ref m) S = .ok (.bl false) S := by
  have a := cels_dats (refD S 3) h
  have hx : PyData.eqv (.list (xs.map cv)) (.list (xs.map cv)) = true := by rw [PyData.eqv]; exact a.2.2
  simp only [aNe, aEqB, toD_lst hn a.1, toD_lst hm a.1]
  rw [if_pos (by simp only [PyData.depth]; omega), hx]
  rfl
/-- numbers in a list -/
theorem ints_dats (rf : Nat → Option PyData) : ∀ (is : List Int), A.dats rf (is.map .int) = some (is.map .int) ∧ PyData.depthAll (is.map .int) ≤ 1
  | [] => by simp [A.dats, PyData.depthAll]
  | i :: is => by
    have b := ints_dats rf is
    simp only [List.map_cons, A.dats, A.dat, b.1, PyData.depthAll, PyData.depth]
    exact ⟨trivial, by omega⟩
theorem ints_in {S : Sto} {n : Nat} {is : List Int} (i : Int) (hn : S[n]? = some (.lst (is.map .int))) : aIn (.int i) (.ref n) S = .ok (.bl (is.any fun z => z == i)) S := by
  have a := ints_dats (refD S 3) is
  simp only [aIn, aInB, toD_int, toD_lst hn a.1]
  rw [if_pos (by omega)]
  simp [List.any_map, Function.comp_def]
end RaM
/-! RaMem7: the numbers of the laws over drivers and devices. -/
namespace RaM
open RA RaP L2
def nextF : FA := fnA 2 2 (ySeq (yAsg (xOp aIx (xVar 0) (xC (.int 2))) (gN 2)) (ySeq (yIf (xT (xOp aGt (xVar 2) (xC (.int 0)))) (ySeq (yAsg (xOp aDiv (xVar 2) (xVar 1)) (gSb (xVar 0) (xC (.int 2)))) (yRet (xOp aMod (xCall bInt (xCons (xVar 2) (xNil))) (xVar 1)))) (yNext)) (ySeq (yAsg (xC (.int 0)) (gN 3)) (ySeq (yIf (xT (xOp aLt (xOp aIx (xVar 0) (xC (.int 1))) (xCall bLen (xCons (xOp aIx (xVar 0) (xC (.int 0))) (xNil))))) (ySeq (yAsg (xCall bAbs (xCons (xOp aIx (xOp aIx (xVar 0) (xC (.int 0))) (xOp aIx (xVar 0) (xC (.int 1)))) (xNil))) (gN 3)) (yAugS (xVar 0) (xC (.int 1)) (xC (.int 1)))) (yNext)) (ySeq (yIf (xT (xOp aGe (xVar 3) (xOp aPow (xC (.int 10)) (xC (.int 18))))) (ySeq (yAsg (xOp aDiv (xVar 3) (xVar 1)) (gSb (xVar 0) (xC (.int 2)))) (yRet (xOp aMod (xCall bInt (xCons (xVar 3) (xNil))) (xVar 1)))) (yNext)) (ySeq (yAsg (xOp aMod (xCall bInt (xCons (xOp aAdd (xOp aAdd (xOp aMul (xOp aIx (xVar 0) (xC (.int 3))) (xC (.int 48271))) (xOp aMul (xVar 3) (xC (.int 69621)))) (xC (.int 11))) (xNil))) (xC (.int 2147483647))) (gSb (xVar 0) (xC (.int 3)))) (yRet (xOp aMod (xCall bInt (xCons (xOp aDiv (xOp aMod (xOp aMul (xOp aIx (xVar 0) (xC (.int 3))) (xC (.int 16807))) (xC (.int 2147483647))) (xC (.int 7))) (xNil))) (xVar 1)))))))))
abbrev tpO (r : Nat) (pos rest seed : Int) : AO := .lst [.ref r, .int pos, .int rest, .int seed]
theorem next_d {S : Sto} {n r : Nat} {ns : List Int} {pos rest seed many : Int} (hn : S[n]? = some (tpO r pos rest seed)) (hr : S[r]? = some (.lst (ns.map .int))) (hne : n ≠ r) (h0 : 0 ≤ pos) (m0 : 0 < many) (m1 : many < 1000) :
    ∃ v pos' rest' seed', nextF [.ref n, .int many] S = .ok (.int v) (S.set n (tpO r pos' rest' seed')) ∧ 0 ≤ v ∧ v < many ∧ 0 ≤ pos' := by
  have hix : ∀ (a b c d : A) (i : Int), i = 0 ∨ i = 1 ∨ i = 2 ∨ i = 3 → ixN [a, b, c, d].length i = some i.toNat := fun a b c d i h => by
    rcases h with rfl | rfl | rfl | rfl <;> rfl
  have md : ∀ x : Int, 0 ≤ x % many ∧ x % many < many := fun x => ⟨Int.emod_nonneg _ (by omega), Int.emod_lt_of_pos _ m0⟩
  have m2 : many < 1073741824 := by omega
  by_cases c : 0 < rest
  · refine ⟨rest % many, pos, rest / many, seed, ?_, (md _).1, (md _).2, h0⟩
    simp [nextF, fnA_d, aIx_l hn, c, m0, m2, aSetI_d hn (hix _ _ _ _ 2 (by simp))]
  · -- behind the cell's reading
    have fin : ∀ (S2 : Sto) (p2 : Int) (w : Int), S2[n]? = some (tpO r p2 rest seed) → (∀ x, S2.set n x = S.set n x) → 0 ≤ p2 →
        ∃ v pos' rest' seed', ((ySeq (yIf (xT (xOp aGe (xVar 3) (xOp aPow (xC (.int 10)) (xC (.int 18))))) (ySeq (yAsg (xOp aDiv (xVar 3) (xVar 1)) (gSb (xVar 0) (xC (.int 2)))) (yRet (xOp aMod (xCall bInt (xCons (xVar 3) (xNil))) (xVar 1)))) (yNext)) (ySeq (yAsg (xOp aMod (xCall bInt (xCons (xOp aAdd (xOp aAdd (xOp aMul (xOp aIx (xVar 0) (xC (.int 3))) (xC (.int 48271))) (xOp aMul (xVar 3) (xC (.int 69621)))) (xC (.int 11))) (xNil))) (xC (.int 2147483647))) (gSb (xVar 0) (xC (.int 3)))) (yRet (xOp aMod (xCall bInt (xCons (xOp aDiv (xOp aMod (xOp aMul (xOp aIx (xVar 0) (xC (.int 3))) (xC (.int 16807))) (xC (.int 2147483647))) (xC (.int 7))) (xNil))) (xVar 1))))) [some (.ref n), some (.int many), some (.int rest), some (.int w)] S2).end = .ok (.int v) (S.set n (tpO r pos' rest' seed')) ∧ 0 ≤ v ∧ v < many ∧ 0 ≤ pos' := by
      intro S2 p2 w hn2 hset hp2
      by_cases c2 : 1000000000000000000 ≤ w
      · refine ⟨w % many, p2, w / many, seed, ?_, (md _).1, (md _).2, hp2⟩
        simp [c2, m0, m2, aSetI_d hn2 (hix _ _ _ _ 2 (by simp)), hset]
      · have hn3 : (S2.set n (tpO r p2 rest ((seed * 48271 + w * 69621 + 11) % 2147483647)))[n]? = some (tpO r p2 rest ((seed * 48271 + w * 69621 + 11) % 2147483647)) := at_set hn2
        refine ⟨((seed * 48271 + w * 69621 + 11) % 2147483647) * 16807 % 2147483647 / 7 % many, p2, rest, (seed * 48271 + w * 69621 + 11) % 2147483647, ?_, (md _).1, (md _).2, hp2⟩
        generalize hz : (seed * 48271 + w * 69621 + 11) % 2147483647 = z at *
        simp [c2, m0, m2, aIx_l hn2, aSetI_d hn2 (hix _ _ _ _ 3 (by simp)), hz, aIx_l hn3, ← hset]
    by_cases c1 : pos < ns.length
    · have hat : atI (ns.map A.int) pos = some (.int (ns.getD pos.toNat 0)) := by
        rw [atI_n h0 (by simpa using c1), List.getElem?_map, List.getD_eq_getElem?_getD, List.getElem?_eq_getElem (by omega)]
        rfl
      obtain ⟨v, p', r', s', e, k⟩ := fin (S.set n (tpO r (pos + 1) rest seed)) (pos + 1) (if ns.getD pos.toNat 0 < 0 then -(ns.getD pos.toNat 0) else ns.getD pos.toNat 0) (at_set hn) (fun x => List.set_set _) (by omega)
      refine ⟨v, p', r', s', ?_, k⟩
      rw [← e]
      generalize ns.getD pos.toNat 0 = q at hat
      simp [nextF, fnA_d, aIx_l hn, c, bLen_l hr, c1, aIx_l hr, hat, yAugS, aAugL, aIxL, hn, aSetI_d hn (hix _ _ _ _ 1 (by simp))]
    · obtain ⟨v, p', r', s', e, k⟩ := fin S pos 0 hn (fun _ => rfl) h0
      refine ⟨v, p', r', s', ?_, k⟩
      rw [← e]
      simp [nextF, fnA_d, aIx_l hn, c, bLen_l hr, c1]
end RaM
/-! RaHas: the memory, and any list of objects beside it. -/
namespace RaM
open RA RaP L2
structure Has (S : Sto) (L : List (Nat × AO)) : Prop where
  at_ : ∀ p ∈ L, S[p.1]? = some p.2
  nd : (L.map (·.1)).Nodup
section
variable {S : Sto} {L : List (Nat × AO)} {n : Nat} {o x : AO}
theorem Has.nil : Has S [] := ⟨fun _ h => (by cases h), List.nodup_nil⟩
theorem Has.lt (h : Has S L) {p : Nat × AO} (hp : p ∈ L) : p.1 < S.length := (List.getElem?_eq_some_iff.mp (h.at_ p hp)).1
theorem Has.hd (h : Has S ((n, o) :: L)) : S[n]? = some o := h.at_ (n, o) (by simp)
theorem Has.app (h : Has S L) (T : Sto) : Has (S ++ T) L := ⟨fun p hp => by rw [List.getElem?_append_left (h.lt hp)]; exact h.at_ p hp, h.nd⟩
theorem Has.new (h : Has S L) (x : AO) : Has (S ++ [x]) ((S.length, x) :: L) := by
  refine ⟨fun p hp => ?_, ?_⟩
  · rcases List.mem_cons.mp hp with rfl | hp
    · exact at_app0 S _
    · exact (h.app [x]).at_ p hp
  · rw [List.map_cons, List.nodup_cons]
    refine ⟨fun hm => ?_, h.nd⟩
    obtain ⟨p, hp, e⟩ := List.mem_map.mp hm
    have := h.lt hp
    rw [e] at this
    exact absurd this (Nat.lt_irrefl _)
theorem Has.set (h : Has S ((n, o) :: L)) (x : AO) : Has (S.set n x) ((n, x) :: L) := by
  have nd := h.nd
  rw [List.map_cons, List.nodup_cons] at nd
  refine ⟨fun p hp => ?_, h.nd⟩
  rcases List.mem_cons.mp hp with rfl | hp
  · exact at_set h.hd
  · have : n ≠ p.1 := fun e => nd.1 (List.mem_map.mpr ⟨p, hp, e.symm⟩)
    rw [List.getElem?_set_ne this]
    exact h.at_ p (List.mem_cons_of_mem _ hp)
theorem Has.perm {L' : List (Nat × AO)} (h : Has S L) (e : L.Perm L') : Has S L' := ⟨fun p hp => h.at_ p (e.mem_iff.mpr hp), (e.map (·.1)).nodup_iff.mp h.nd⟩
theorem Has.sub {L' : List (Nat × AO)} (h : Has S L) (e : L'.Sublist L) : Has S L' := ⟨fun p hp => h.at_ p (e.subset hp), (e.map (·.1)).nodup h.nd⟩
end
structure C (S : Sto) (f : MR → Nat) (M : Mem) (N m : Nat) (L : List (Nat × AO)) : Prop where
  mem : MemAt S f M
  wf : Wf M N
  mm : f .m = m
  has : Has S L
  dis : ∀ r, ∀ p ∈ L, f r ≠ p.1
section
variable {S : Sto} {f : MR → Nat} {M : Mem} {N m n : Nat} {L : List (Nat × AO)} {o x : AO}
theorem Fr.out' {ρ : Type} {S S' : Sto} {f f' : ρ → Nat} (h : Fr S S' f f') {n : Nat} (hn : n < S.length) (ho : ∀ j, f j ≠ n) : ∀ j, f' j ≠ n := fun j e => by
  rcases h.ids j with ⟨i, q⟩ | q
  · exact ho i (q.trans e)
  · omega
theorem C.acc (h : C S f M N m L) (hN : N < 900) {w : Who} {d : Bool} {q : Rq} (hm : may w d q) :
    ∃ S' f', a_Memory_access [.ref m, actA w d, q.a] S = .ok (.tup [(ex M d q).1, .int (M.count + 1)]) S' ∧ C S' f' (acc M w d q) (N + 1) m L := by
  obtain ⟨S', f', e, a, b, c⟩ := access_ok h.mem h.wf hN w d q hm
  rw [h.mm] at e
  exact ⟨S', f', e, a, h.wf.acc hm, by rw [c.m, h.mm], ⟨fun p hp => (b.keep _ (h.has.lt hp) fun r => h.dis r p hp).trans (h.has.at_ p hp), h.has.nd⟩, fun r p hp => Fr.out' b (h.has.lt hp) (fun r => h.dis r p hp) r⟩
theorem C.app (h : C S f M N m L) (T : Sto) : C (S ++ T) f M N m L := ⟨h.mem.app T, h.wf, h.mm, h.has.app T, h.dis⟩
theorem C.new (h : C S f M N m L) (x : AO) : C (S ++ [x]) f M N m ((S.length, x) :: L) := by
  refine ⟨h.mem.app _, h.wf, h.mm, h.has.new x, fun r p hp e => ?_⟩
  rcases List.mem_cons.mp hp with rfl | hp
  · have := h.mem.lt r
    simp only at e
    omega
  · exact h.dis r p hp e
theorem C.set (h : C S f M N m ((n, o) :: L)) (x : AO) : C (S.set n x) f M N m ((n, x) :: L) := by
  refine ⟨⟨fun j => ?_, h.mem.inj⟩, h.wf, h.mm, h.has.set x, fun r p hp => ?_⟩
  · rw [List.getElem?_set_ne (Ne.symm (h.dis j (n, o) (by simp)))]
    exact h.mem.at_ j
  · rcases List.mem_cons.mp hp with rfl | hp
    · exact h.dis r (n, o) (by simp)
    · exact h.dis r p (List.mem_cons_of_mem _ hp)
theorem C.perm {L' : List (Nat × AO)} (h : C S f M N m L) (e : L.Perm L') : C S f M N m L' := ⟨h.mem, h.wf, h.mm, h.has.perm e, fun r p hp => h.dis r p (e.mem_iff.mpr hp)⟩
theorem C.sub {L' : List (Nat × AO)} (h : C S f M N m L) (e : L'.Sublist L) : C S f M N m L' := ⟨h.mem, h.wf, h.mm, h.has.sub e, fun r p hp => h.dis r p (e.subset hp)⟩
theorem C.mono (h : C S f M N m L) {K : Nat} (hK : N ≤ K) : C S f M K m L := ⟨h.mem, ⟨h.wf.hl, h.wf.hd, fun d => (h.wf.sd d).mono hK, by have := h.wf.rl; omega⟩, h.mm, h.has, h.dis⟩
theorem C.recv (h : C S f M N m L) (s : String) (hs : s ≠ "count" ∧ s ≠ "held" ∧ s ≠ "guards" ∧ s ≠ "stored" ∧ s ≠ "journals" ∧ s ≠ "rows") : aRecv "Memory" s (.ref m) S = .ok (.ref m) S := by
  have := recv_m h.mem s hs
  rw [h.mm] at this
  exact this
end
end RaM
/-! RaDev: the device over the memory (begun). -/
namespace RaM
open RA RaP L2
structure Jb where
  tag : Int
  wr : Bool
  block : Int
  ph : Int
  seq : Int
  cells : List A
  moved : Int
  dec : Bool
def Jb.kind (j : Jb) : String := if j.wr then "write" else "read"
def Jb.ent (j : Jb) : A := .tup [.int j.tag, .str j.kind, .int j.block, .int j.ph, .int j.seq]
/-- a job at its place, its content at another -/
structure Jr where
  id : Nat
  cid : Nat
  j : Jb
def jobF (c : Nat) (j : Jb) : List (String × A) := [("descriptor", j.ent), ("tag", .int j.tag), ("kind", .str j.kind), ("block", .int j.block), ("sequence", .int j.seq), ("content", .ref c), ("moved", .int j.moved), ("is_decided", .bl j.dec)]
def Jr.objs (r : Jr) : List (Nat × AO) := [(r.id, .ins "Job" (jobF r.cid r.j)), (r.cid, .lst r.j.cells)]
structure Dv where
  id : Nat
  uw : Nat
  pd : Nat
  gen : A
  taken : Int
  done : Int
  jobs : List Jr
  pend : List A
def devF (v : Dv) (m : Nat) (d : Bool) : List (String × A) := [("memory", .ref m), ("device", .int (di d)), ("generation", v.gen), ("taken", .int v.taken), ("completed", .int v.done), ("under_way", .ref v.uw), ("pending", .ref v.pd)]
def Dv.objs (v : Dv) (m : Nat) (d : Bool) : List (Nat × AO) := (v.id, .ins "Device" (devF v m d)) :: (v.uw, .lst (v.jobs.map fun r => .ref r.id)) :: (v.pd, .lst v.pend) :: v.jobs.flatMap Jr.objs
section
variable {S : Sto} {f : MR → Nat} {M : Mem} {N m : Nat} {L : List (Nat × AO)} {v : Dv} {d : Bool}
/-- an access of the device -/
theorem dev_access (h : C S f M N m (v.objs m d ++ L)) (hN : N < 900) {q : Rq} (hm : may .dev d q) :
    ∃ S' f', a_Device_access [.ref v.id, q.a] S = .ok (ex M d q).1 S' ∧ C S' f' (acc M .dev d q) (N + 1) m (v.objs m d ++ L) := by
  obtain ⟨S', f', e, hC⟩ := h.acc hN hm
  have hd : S[v.id]? = some (.ins "Device" (devF v m d)) := h.has.at_ (v.id, .ins "Device" (devF v m d)) (by simp [Dv.objs])
  have hr := h.recv "access" (by decide)
  refine ⟨S', f', ?_, hC⟩
  simp only [Who.s, Rq.a, actA] at e
  simp [a_Device_access, fnA_d, aFld_e hd, devF, hr, e]
/-- the jobs' descriptors -/
theorem dev_jobs (h : C S f M N m (v.objs m d ++ L)) (hl : v.jobs.length < 1000) : a_Device_jobs [.ref v.id] S = .ok (.ref S.length) (S ++ [.lst (v.jobs.map fun r => r.j.ent)]) := by
  have hd : S[v.id]? = some (.ins "Device" (devF v m d)) := h.has.at_ (v.id, .ins "Device" (devF v m d)) (by simp [Dv.objs])
  have hu : S[v.uw]? = some (.lst (v.jobs.map fun r => .ref r.id)) := h.has.at_ (v.uw, .lst (v.jobs.map fun r => .ref r.id)) (by simp [Dv.objs])
  have cmp := comp_l (r := v.uw) (xs := v.jobs.map fun r => A.ref r.id) (j := 1) (fe := xFld (xVar 0) "under_way") (tt := xYes) (te := xFld (xVar 1) "descriptor") (as := [some (.ref v.id), none]) S
    (fun _ => true) (fun i => ((v.jobs.map fun r => r.j.ent)).getD i .non) (by simp [aFld_e hd, devF]) hu (by simpa using Nat.lt_of_lt_of_le hl (by decide)) fun acc0 i x hx => by
      rw [List.getElem?_map] at hx
      cases hz : v.jobs[i]? with
      | none => rw [hz] at hx; cases hx
      | some r =>
        rw [hz] at hx
        cases hx
        have hj : (S ++ [AO.lst acc0])[r.id]? = some (.ins "Job" (jobF r.cid r.j)) := by
          refine (h.has.app [.lst acc0]).at_ (r.id, .ins "Job" (jobF r.cid r.j)) ?_
          refine List.mem_append_left _ (List.mem_cons_of_mem _ (List.mem_cons_of_mem _ (List.mem_cons_of_mem _ (List.mem_flatMap.mpr ⟨r, List.mem_of_getElem? hz, by simp [Jr.objs]⟩))))
        have hg : ((v.jobs.map fun r => r.j.ent)).getD i .non = r.j.ent := by rw [List.getD_eq_getElem?_getD, List.getElem?_map, hz]; rfl
        rw [hg]
        refine ⟨rfl, fun _ => ?_⟩
        simp [aFld_e hj, jobF]
  have all : ∀ (xs : List A) (k : Nat), compL (fun _ => true) (fun i => xs.getD (i - k) .non) k xs.length = xs := fun xs => by
    induction xs with
    | nil => intro k; rfl
    | cons a r ih =>
      intro k
      rw [List.length_cons]
      unfold compL
      have e : compL (fun _ => true) (fun i => (a :: r).getD (i - k) .non) (k + 1) r.length = compL (fun _ => true) (fun i => r.getD (i - (k + 1)) .non) (k + 1) r.length := by
        have ext : ∀ (n i : Nat) (e e' : Nat → A), (∀ j, i ≤ j → e j = e' j) → compL (fun _ => true) e i n = compL (fun _ => true) e' i n := fun n => by
          induction n with
          | zero => intro _ _ _ _; rfl
          | succ n ihn => intro i e e' h; unfold compL; rw [h i (Nat.le_refl _), ihn (i + 1) e e' fun j hj => h j (by omega)]
        refine ext _ _ _ _ fun j hj => ?_
        rw [show j - k = (j - (k + 1)) + 1 by omega]
        rfl
      rw [e, ih (k + 1)]
      simp
  have a0 := all (v.jobs.map fun r => r.j.ent) 0
  simp only [Nat.sub_zero, List.length_map] at a0
  simp only [List.length_map] at cmp
  rw [a0] at cmp
  unfold a_Device_jobs
  rw [fn1]
  show O.end (yRet _ [some (.ref v.id), none] S) = _
  rw [yRet_d, cmp]
  rfl
theorem C.swap {a b : Nat × AO} (h : C S f M N m (a :: b :: L)) : C S f M N m (b :: a :: L) := h.perm (List.Perm.swap b a L)
theorem C.drop1 {a : Nat × AO} (h : C S f M N m (a :: L)) : C S f M N m L := h.sub (List.sublist_cons_self a L)
/-- the device as a record alone -/
structure Dd where
  gen : Int
  taken : Int
  done : Int
  jobs : List Jb
  pend : List A
def Dv.is (v : Dv) (D : Dd) : Prop := v.gen = .int D.gen ∧ v.taken = D.taken ∧ v.done = D.done ∧ v.jobs.map (·.j) = D.jobs ∧ v.pend = D.pend
def dreset (D : Dd) (d : Bool) (x : Int) : Dd := if x = D.gen then D else { gen := x, taken := 0, done := 0, jobs := [], pend := [.tup [.str "write", .int (50 + 4 * di d), .int x]] }
theorem dev_reset {D : Dd} (h : C S f M N m (v.objs m d ++ L)) (hv : v.is D) (hN : N < 900) {x : Int} (hx : M.held.getD (49 + 4 * di d).toNat .non = .int x) :
    ∃ (S' : Sto) (f' : MR → Nat) (v' : Dv), a_Device_look_for_reset [.ref v.id] S = .ok .non S' ∧ C S' f' (acc M .dev d (.rd (49 + 4 * di d))) (N + 1) m (v'.objs m d ++ L) ∧ v'.id = v.id ∧ v'.is (dreset D d x) := by
  have hd01 := di_01 d
  obtain ⟨S1, f1, e, h1⟩ := dev_access h hN (q := .rd (49 + 4 * di d)) ⟨by omega, by omega, .inr ⟨rfl, by omega, by omega⟩⟩
  have hex : (ex M d (.rd (49 + 4 * di d))).1 = .int x := hx
  rw [hex] at e
  have hd0 : S[v.id]? = some (.ins "Device" (devF v m d)) := h.has.at_ (v.id, .ins "Device" (devF v m d)) (by simp [Dv.objs])
  have hr0 : aRecv "Device" "access" (.ref v.id) S = .ok (.ref v.id) S := by rw [aRecv_e hd0]; simp [devF]
  have hd1 : S1[v.id]? = some (.ins "Device" (devF v m d)) := h1.has.at_ (v.id, .ins "Device" (devF v m d)) (by simp [Dv.objs])
  obtain ⟨g0, g1, g2, g3, g4⟩ := hv
  simp only [Rq.a, Rq.l] at e
  by_cases c : x = D.gen
  · refine ⟨S1, f1, v, ?_, h1, rfl, by rw [dreset, if_pos c]; exact ⟨g0, g1, g2, g3, g4⟩⟩
    simp [a_Device_look_for_reset, fnA_d, aFld_e hd0, devF, hr0, e, aFld_e hd1, g0, c]
  · have k0 : C S1 f1 (acc M .dev d (.rd (49 + 4 * di d))) (N + 1) m ((v.id, .ins "Device" (devF v m d)) :: ((v.uw, .lst (v.jobs.map fun r => .ref r.id)) :: (v.pd, .lst v.pend) :: v.jobs.flatMap Jr.objs ++ L)) := h1
    have k1 := k0.set (.ins "Device" (devF { v with gen := .int x } m d))
    have k2 := k1.set (.ins "Device" (devF { v with gen := .int x, taken := 0 } m d))
    have k3 := k2.set (.ins "Device" (devF { v with gen := .int x, taken := 0, done := 0 } m d))
    rw [List.set_set] at k2 k3
    rw [List.set_set] at k3
    have i1 := k1.has.hd
    have i2 := k2.has.hd
    have i3 := k3.has.hd
    generalize e1 : S1.set v.id (.ins "Device" (devF { v with gen := .int x } m d)) = T1 at *
    generalize e2 : S1.set v.id (.ins "Device" (devF { v with gen := .int x, taken := 0 } m d)) = T2 at *
    generalize e3 : S1.set v.id (.ins "Device" (devF { v with gen := .int x, taken := 0, done := 0 } m d)) = T3 at *
    have s12 : T1.set v.id (.ins "Device" (devF { v with gen := .int x, taken := 0 } m d)) = T2 := by rw [← e1, List.set_set, e2]
    have s23 : T2.set v.id (.ins "Device" (devF { v with gen := .int x, taken := 0, done := 0 } m d)) = T3 := by rw [← e2, List.set_set, e3]
    have k4 := (k3.new (.lst [])).swap
    have i4 := k4.has.hd
    generalize en : T3.length = n at *
    have k5 := k4.set (.ins "Device" (devF { v with gen := .int x, taken := 0, done := 0, uw := n } m d))
    have i5 := k5.has.hd
    generalize e4 : T3 ++ [AO.lst []] = T4 at *
    generalize e5 : T4.set v.id (.ins "Device" (devF { v with gen := .int x, taken := 0, done := 0, uw := n } m d)) = T5 at *
    have k6 := (k5.new (.lst [.tup [.str "write", .int (50 + 4 * di d), .int x]])).swap
    have i6 := k6.has.hd
    generalize en2 : T5.length = n2 at *
    have k7 := k6.set (.ins "Device" (devF { v with gen := .int x, taken := 0, done := 0, uw := n, pd := n2 } m d))
    generalize e6 : T5 ++ [AO.lst [.tup [.str "write", .int (50 + 4 * di d), .int x]]] = T6 at *
    refine ⟨T6.set v.id (.ins "Device" (devF { v with gen := .int x, taken := 0, done := 0, uw := n, pd := n2 } m d)), f1, { v with gen := .int x, taken := 0, done := 0, uw := n, pd := n2, jobs := [], pend := [.tup [.str "write", .int (50 + 4 * di d), .int x]] }, ?_, ?_, rfl, by rw [dreset, if_neg c]; exact ⟨rfl, rfl, rfl, rfl, rfl⟩⟩
    · simp only [devF] at e1 s12 s23 e5 i1 i2 i3 i4 i5 i6 hd1 ⊢
      simp [a_Device_look_for_reset, fnA_d, aFld_e hd0, devF, hr0, e, aFld_e hd1, g0, c, aSF_e hd1, e1, aSF_e i1, s12, aSF_e i2, s23, e4, en, aSF_e i4, e5, aFld_e i5, e6, en2, aSF_e i6]
    · refine (k7.perm (List.Perm.cons _ (List.Perm.swap _ _ _))).sub (List.Sublist.cons₂ _ (List.Sublist.cons₂ _ (List.Sublist.cons₂ _ ?_)))
      exact List.sublist_append_right ((v.uw, _) :: (v.pd, _) :: v.jobs.flatMap Jr.objs) L
/-- a new job -/
theorem job_new (S : Sto) (tag block ph seq : Int) (wr : Bool) :
    aMake "Job" a_Job_init [(Jb.mk tag wr block ph seq [] 0 false).ent] S = .ok (.ref S.length) (S ++ [.ins "Job" (jobF (S.length + 1) (Jb.mk tag wr block ph seq [] 0 false)), .lst []]) := by
  have hc : cutA [A.int tag, .str (Jb.mk tag wr block ph seq [] 0 false).kind, .int block, .int ph, .int seq] none (some 3) = [.int tag, .str (Jb.mk tag wr block ph seq [] 0 false).kind, .int block] := by simp [cutA, HT.sIx]
  simp only [Jb.ent, jobF]
  generalize (Jb.mk tag wr block ph seq [] 0 false).kind = kd at *
  simp [aMake_d, a_Job_init, fnA_d, aSFN, at_app0, at_app, set_app0, set_app, hc]
/-- the device looks for a descriptor: nothing is taken -/
theorem dev_descr0 {D : Dd} (h : C S f M N m (v.objs m d ++ L)) (hv : v.is D) (hN : N < 900)
    (hx : (ex M d (.dr 0 (D.taken % 4))).1 = .non ∨ ∃ e, (ex M d (.dr 0 (D.taken % 4))).1 = .tup [e] ∧ ∀ S, a_is_new_descriptor [e, .int D.taken] S = .ok (.bl false) S) :
    ∃ (S' : Sto) (f' : MR → Nat), a_Device_look_for_descriptor [.ref v.id] S = .ok .non S' ∧ C S' f' (acc M .dev d (.dr 0 (D.taken % 4))) (N + 1) m (v.objs m d ++ L) := by
  obtain ⟨S1, f1, e, h1⟩ := dev_access h hN (q := .dr 0 (D.taken % 4)) ⟨rfl, by omega, by omega, by omega, by omega⟩
  have hd0 : S[v.id]? = some (.ins "Device" (devF v m d)) := h.has.at_ (v.id, .ins "Device" (devF v m d)) (by simp [Dv.objs])
  have hr0 : aRecv "Device" "access" (.ref v.id) S = .ok (.ref v.id) S := by rw [aRecv_e hd0]; simp [devF]
  have hd1 : S1[v.id]? = some (.ins "Device" (devF v m d)) := h1.has.at_ (v.id, .ins "Device" (devF v m d)) (by simp [Dv.objs])
  obtain ⟨g0, g1, g2, g3, g4⟩ := hv
  simp only [Rq.a, Rq.l] at e
  refine ⟨S1, f1, ?_, h1⟩
  rcases hx with hx | ⟨u, hx, hn⟩
  · rw [hx] at e
    simp [a_Device_look_for_descriptor, a_slot_of, fnA_d, aFld_e hd0, devF, hr0, g1, e]
  · rw [hx] at e
    simp [a_Device_look_for_descriptor, a_slot_of, fnA_d, aFld_e hd0, devF, hr0, g1, e, aFld_e hd1, hn]
/-- a descriptor is taken -/
theorem dev_descr1 {D : Dd} (h : C S f M N m (v.objs m d ++ L)) (hv : v.is D) (hN : N < 900) (hj : v.jobs.length < 1000) {tag block ph : Int} {wr : Bool}
    (hx : (ex M d (.dr 0 (D.taken % 4))).1 = .tup [(Jb.mk tag wr block ph D.taken [] 0 false).ent]) (hn : ∀ S, a_is_new_descriptor [(Jb.mk tag wr block ph D.taken [] 0 false).ent, .int D.taken] S = .ok (.bl true) S) :
    ∃ (S' : Sto) (f' : MR → Nat) (v' : Dv), a_Device_look_for_descriptor [.ref v.id] S = .ok .non S' ∧ C S' f' (acc M .dev d (.dr 0 (D.taken % 4))) (N + 1) m (v'.objs m d ++ L) ∧ v'.id = v.id ∧
      v'.is { D with taken := D.taken + 1, jobs := D.jobs ++ [Jb.mk tag wr block ph D.taken [] 0 false] } := by
  obtain ⟨S1, f1, e, h1⟩ := dev_access h hN (q := .dr 0 (D.taken % 4)) ⟨rfl, by omega, by omega, by omega, by omega⟩
  have hd0 : S[v.id]? = some (.ins "Device" (devF v m d)) := h.has.at_ (v.id, .ins "Device" (devF v m d)) (by simp [Dv.objs])
  have hr0 : aRecv "Device" "access" (.ref v.id) S = .ok (.ref v.id) S := by rw [aRecv_e hd0]; simp [devF]
  have hd1 : S1[v.id]? = some (.ins "Device" (devF v m d)) := h1.has.at_ (v.id, .ins "Device" (devF v m d)) (by simp [Dv.objs])
  have hu1 : S1[v.uw]? = some (.lst (v.jobs.map fun r => .ref r.id)) := h1.has.at_ (v.uw, .lst (v.jobs.map fun r => .ref r.id)) (by simp [Dv.objs])
  obtain ⟨g0, g1, g2, g3, g4⟩ := hv
  simp only [Rq.a, Rq.l] at e
  rw [hx] at e
  have jn := job_new S1 tag block ph D.taken wr
  generalize hJ : Jb.mk tag wr block ph D.taken [] 0 false = j0 at *
  have hj0 : j0.cells = [] := by rw [← hJ]
  have k0 : C S1 f1 (acc M .dev d (.dr 0 (D.taken % 4))) (N + 1) m ((v.id, .ins "Device" (devF v m d)) :: (v.uw, .lst (v.jobs.map fun r => .ref r.id)) :: ((v.pd, .lst v.pend) :: v.jobs.flatMap Jr.objs ++ L)) := h1
  have k2 := (k0.new (.ins "Job" (jobF (S1.length + 1) j0))).new (.lst [])
  rw [show (S1 ++ [AO.ins "Job" (jobF (S1.length + 1) j0)]).length = S1.length + 1 by simp, show S1 ++ [AO.ins "Job" (jobF (S1.length + 1) j0)] ++ [AO.lst []] = S1 ++ [AO.ins "Job" (jobF (S1.length + 1) j0), .lst []] by simp] at k2
  generalize eS2 : S1 ++ [AO.ins "Job" (jobF (S1.length + 1) j0), .lst []] = S2 at *
  have k3 := k2.perm (List.perm_middle (l₁ := [(S1.length + 1, AO.lst []), (S1.length, AO.ins "Job" (jobF (S1.length + 1) j0)), (v.id, .ins "Device" (devF v m d))]) (a := (v.uw, AO.lst (v.jobs.map fun r => .ref r.id))) (l₂ := (v.pd, .lst v.pend) :: v.jobs.flatMap Jr.objs ++ L))
  have i3 := k3.has.hd
  have k4 := k3.set (.lst ((v.jobs.map fun r => A.ref r.id) ++ [A.ref S1.length]))
  generalize eS3 : S2.set v.uw (AO.lst ((v.jobs.map fun r => A.ref r.id) ++ [A.ref S1.length])) = S3 at *
  have k5 := k4.perm (List.perm_middle (l₁ := [(v.uw, AO.lst ((v.jobs.map fun r => A.ref r.id) ++ [A.ref S1.length])), (S1.length + 1, AO.lst []), (S1.length, AO.ins "Job" (jobF (S1.length + 1) j0))]) (a := (v.id, AO.ins "Device" (devF v m d))) (l₂ := (v.pd, .lst v.pend) :: v.jobs.flatMap Jr.objs ++ L))
  have i5 := k5.has.hd
  have k6 := k5.set (.ins "Device" (devF { v with taken := v.taken + 1 } m d))
  refine ⟨S3.set v.id (.ins "Device" (devF { v with taken := v.taken + 1 } m d)), f1, { v with taken := v.taken + 1, jobs := v.jobs ++ [⟨S1.length, S1.length + 1, j0⟩] }, ?_, ?_, rfl, g0, by simp [g1], g2, by simp [g3], g4⟩
  · have hl : v.jobs.length < 1000000 := by omega
    simp [a_Device_look_for_descriptor, a_slot_of, fnA_d, aFld_e hd0, devF, hr0, g1, e, aFld_e hd1, hn, aIsL_d hu1, jn, eS2, aApp_d i3, hl]
    simp only [devF] at i5
    rw [eS3]
    simp [aCls_d i5, aFld_e i5, aSFC_e i5, g1]
  · refine k6.perm ?_
    simp only [Dv.objs, List.flatMap_append, List.map_append, List.map_cons, List.map_nil, List.flatMap_cons, List.flatMap_nil, List.append_nil, Jr.objs, hj0]
    refine List.Perm.cons _ (List.Perm.cons _ ?_)
    have a1 : ([(S1.length + 1, AO.lst []), (S1.length, AO.ins "Job" (jobF (S1.length + 1) j0))] ++ ((v.pd, AO.lst v.pend) :: v.jobs.flatMap Jr.objs)).Perm (((v.pd, AO.lst v.pend) :: v.jobs.flatMap Jr.objs) ++ [(S1.length, AO.ins "Job" (jobF (S1.length + 1) j0)), (S1.length + 1, AO.lst [])]) :=
      List.perm_append_comm.trans (List.Perm.append_left _ (List.Perm.swap _ _ _))
    have a2 := a1.append_right L
    simpa using a2
/-- a job's object at its place -/
theorem job_at (h : C S f M N m (v.objs m d ++ L)) {r : Jr} (hr : r ∈ v.jobs) : S[r.id]? = some (.ins "Job" (jobF r.cid r.j)) ∧ S[r.cid]? = some (.lst r.j.cells) := by
  have a : ∀ p ∈ r.objs, S[p.1]? = some p.2 := fun p hp => h.has.at_ p (List.mem_append_left _ (List.mem_cons_of_mem _ (List.mem_cons_of_mem _ (List.mem_cons_of_mem _ (List.mem_flatMap.mpr ⟨r, hr, hp⟩)))))
  exact ⟨a (r.id, _) (by simp [Jr.objs]), a (r.cid, _) (by simp [Jr.objs])⟩
theorem pick_map {α β : Type} (p : α → Bool) (e : α → β) (dflt : α) : ∀ (xs : List α) (k : Nat), compL (fun i => p (xs.getD (i - k) dflt)) (fun i => e (xs.getD (i - k) dflt)) k xs.length = (xs.filter p).map e
  | [], _ => rfl
  | a :: r, k => by
    have ext : ∀ (n i : Nat) (c c' : Nat → Bool) (e e' : Nat → β), (∀ j, i ≤ j → c j = c' j ∧ e j = e' j) → compL c e i n = compL c' e' i n := fun n => by
      induction n with
      | zero => intro _ _ _ _ _ _; rfl
      | succ n ihn => intro i c c' e e' h; unfold compL; rw [(h i (Nat.le_refl _)).1, (h i (Nat.le_refl _)).2, ihn (i + 1) c c' e e' fun j hj => h j (by omega)]
    rw [List.length_cons]
    unfold compL
    rw [ext r.length (k + 1) _ (fun i => p (r.getD (i - (k + 1)) dflt)) _ (fun i => e (r.getD (i - (k + 1)) dflt)) fun j hj => by
      rw [show j - k = (j - (k + 1)) + 1 by omega]
      exact ⟨rfl, rfl⟩, pick_map p e dflt r (k + 1)]
    simp only [Nat.sub_self, List.getD_cons_zero, List.filter_cons]
    cases p a <;> simp
theorem filter_flat (p : Jr → Bool) : ∀ xs : List Jr, ((xs.filter p).flatMap Jr.objs).Sublist (xs.flatMap Jr.objs)
  | [] => List.Sublist.refl _
  | a :: r => by
    rw [List.filter_cons]
    split
    · rw [List.flatMap_cons, List.flatMap_cons]
      exact List.Sublist.append (List.Sublist.refl _) (filter_flat p r)
    · rw [List.flatMap_cons]
      exact (filter_flat p r).trans (List.sublist_append_right _ _)
/-- a job is dropped -/
theorem dev_drop (h : C S f M N m (v.objs m d ++ L)) (hj : v.jobs.length < 1000) {r0 : Jr} (hr : r0 ∈ v.jobs) :
    ∃ (S' : Sto) (v' : Dv), a_Device_drop [.ref v.id, .ref r0.id] S = .ok .non S' ∧ C S' f M N m (v'.objs m d ++ L) ∧
      v' = { v with uw := v'.uw, jobs := v.jobs.filter fun r => !(r.j.seq == r0.j.seq) } ∧ ∀ n, n < S.length → v.id ≠ n → S'[n]? = S[n]? := by
  have hd : S[v.id]? = some (.ins "Device" (devF v m d)) := h.has.at_ (v.id, .ins "Device" (devF v m d)) (by simp [Dv.objs])
  have hu : S[v.uw]? = some (.lst (v.jobs.map fun r => .ref r.id)) := h.has.at_ (v.uw, .lst (v.jobs.map fun r => .ref r.id)) (by simp [Dv.objs])
  have cmp := comp_l (r := v.uw) (xs := v.jobs.map fun r => A.ref r.id) (j := 2) (fe := xFld (xVar 0) "under_way") (tt := xT (xOp aNe (xFld (xVar 2) "sequence") (xFld (xVar 1) "sequence"))) (te := xVar 2) (as := [some (.ref v.id), some (.ref r0.id), none]) S
    (fun i => !((v.jobs.getD (i - 0) r0).j.seq == r0.j.seq)) (fun i => A.ref (v.jobs.getD (i - 0) r0).id) (by simp [aFld_e hd, devF]) hu (by simpa using Nat.lt_of_lt_of_le hj (by decide)) fun acc0 i x hx => by
      rw [List.getElem?_map] at hx
      cases hz : v.jobs[i]? with
      | none => rw [hz] at hx; cases hx
      | some r =>
        rw [hz] at hx
        cases hx
        have hg : v.jobs.getD (i - 0) r0 = r := by rw [Nat.sub_zero, List.getD_eq_getElem?_getD, hz]; rfl
        rw [hg]
        have h2 := h.app [.lst acc0]
        have j1 := (job_at h2 (List.mem_of_getElem? hz)).1
        have j0 := (job_at h2 hr).1
        refine ⟨?_, fun _ => by simp⟩
        simp [aFld_e j1, aFld_e j0, jobF]
  have pm := pick_map (fun r : Jr => !(r.j.seq == r0.j.seq)) (fun r : Jr => A.ref r.id) r0 v.jobs 0
  simp only [List.length_map] at cmp
  rw [pm] at cmp
  have k1 : C (S ++ [.lst ((v.jobs.filter fun r => !(r.j.seq == r0.j.seq)).map fun r => A.ref r.id)]) f M N m ((S.length, .lst ((v.jobs.filter fun r => !(r.j.seq == r0.j.seq)).map fun r => A.ref r.id)) :: (v.id, .ins "Device" (devF v m d)) :: ((v.uw, .lst (v.jobs.map fun r => .ref r.id)) :: (v.pd, .lst v.pend) :: v.jobs.flatMap Jr.objs ++ L)) := h.new _
  have k2 := k1.swap
  have i2 := k2.has.hd
  have k3 := k2.set (.ins "Device" (devF { v with uw := S.length } m d))
  refine ⟨_, { v with uw := S.length, jobs := v.jobs.filter fun r => !(r.j.seq == r0.j.seq) }, ?_, k3.sub ?_, rfl, fun n hn hne => by rw [List.getElem?_set_ne hne, List.getElem?_append_left hn]⟩
  · unfold a_Device_drop
    rw [fn2]
    show O.end (ySF _ _ _ [some (.ref v.id), some (.ref r0.id), none] S) = _
    rw [ySF_d, cmp]
    simp only [devF] at i2 ⊢
    simp [aSF_e i2]
  · refine List.Sublist.cons₂ _ (List.Sublist.cons₂ _ (List.Sublist.cons _ (List.Sublist.cons₂ _ ?_)))
    exact List.Sublist.append (filter_flat _ _) (List.Sublist.refl _)
/-- a job's fields change -/
theorem job_setF {X Y : List Jr} {r : Jr} (h : C S f M N m ({ v with jobs := X ++ r :: Y }.objs m d ++ L)) (j' : Jb) (hc : j'.cells = r.j.cells) :
    C (S.set r.id (.ins "Job" (jobF r.cid j'))) f M N m ({ v with jobs := X ++ { r with j := j' } :: Y }.objs m d ++ L) := by
  have sh : ∀ r' : Jr, r'.id = r.id → ({ v with jobs := X ++ r' :: Y }.objs m d ++ L) = ((v.id, AO.ins "Device" (devF v m d)) :: (v.uw, AO.lst ((X ++ r :: Y).map fun r => A.ref r.id)) :: (v.pd, .lst v.pend) :: X.flatMap Jr.objs) ++ (r'.id, AO.ins "Job" (jobF r'.cid r'.j)) :: ((r'.cid, .lst r'.j.cells) :: Y.flatMap Jr.objs ++ L) := fun r' hr' => by
    simp [Dv.objs, Jr.objs, devF, hr']
  rw [sh r rfl] at h
  rw [sh { r with j := j' } rfl]
  have k1 := (h.perm List.perm_middle).set (.ins "Job" (jobF r.cid j'))
  have k2 := k1.perm List.perm_middle.symm
  rw [← hc] at k2
  exact k2
/-- a job's content changes -/
theorem job_setC {X Y : List Jr} {r : Jr} (h : C S f M N m ({ v with jobs := X ++ r :: Y }.objs m d ++ L)) (cs : List A) :
    C (S.set r.cid (.lst cs)) f M N m ({ v with jobs := X ++ { r with j := { r.j with cells := cs } } :: Y }.objs m d ++ L) := by
  have sh : ∀ r' : Jr, r'.id = r.id → ({ v with jobs := X ++ r' :: Y }.objs m d ++ L) = ((v.id, AO.ins "Device" (devF v m d)) :: (v.uw, AO.lst ((X ++ r :: Y).map fun r => A.ref r.id)) :: (v.pd, .lst v.pend) :: X.flatMap Jr.objs ++ [(r'.id, AO.ins "Job" (jobF r'.cid r'.j))]) ++ (r'.cid, .lst r'.j.cells) :: (Y.flatMap Jr.objs ++ L) := fun r' hr' => by
    simp [Dv.objs, Jr.objs, devF, hr']
  rw [sh r rfl] at h
  rw [sh { r with j := { r.j with cells := cs } } rfl]
  have k1 := (h.perm List.perm_middle).set (.lst cs)
  exact k1.perm List.perm_middle.symm
@[simp] theorem buffer_page_d (S : Sto) (t : Int) : a_buffer_page [.int t] S = .ok (.int (2 + t)) S := by
  simp [a_buffer_page, fnA_d]
  try omega
/-- a cell is read: it is there -/
theorem dev_read1 {X Y : List Jr} {r : Jr} {u : A} (h : C S f M N m ({ v with jobs := X ++ r :: Y }.objs m d ++ L)) (hN : N < 900) (ht0 : 0 ≤ r.j.tag) (ht3 : r.j.tag ≤ 3) (hm0 : 0 ≤ r.j.moved) (hm3 : r.j.moved ≤ 3) (hcl : r.j.cells.length < 1000)
    (hx : (ex M d (.dr (2 + r.j.tag) r.j.moved)).1 = .tup [u]) :
    ∃ (S' : Sto) (f' : MR → Nat), a_Device_read_cell [.ref v.id, .ref r.id] S = .ok .non S' ∧
      C S' f' (acc M .dev d (.dr (2 + r.j.tag) r.j.moved)) (N + 1) m ({ v with jobs := X ++ { r with j := { r.j with cells := r.j.cells ++ [u], moved := r.j.moved + 1 } } :: Y }.objs m d ++ L) := by
  obtain ⟨S1, f1, e, h1⟩ := dev_access (v := { v with jobs := X ++ r :: Y }) h hN (q := .dr (2 + r.j.tag) r.j.moved) ⟨rfl, by omega, by omega, hm0, hm3⟩
  have hd0 : S[v.id]? = some (.ins "Device" (devF v m d)) := h.has.at_ (v.id, .ins "Device" (devF v m d)) (by simp [Dv.objs, devF])
  have hr0 : aRecv "Device" "access" (.ref v.id) S = .ok (.ref v.id) S := by rw [aRecv_e hd0]; simp [devF]
  obtain ⟨j0, _⟩ := job_at (v := { v with jobs := X ++ r :: Y }) h (r := r) (by simp)
  obtain ⟨j1, c1⟩ := job_at (v := { v with jobs := X ++ r :: Y }) h1 (r := r) (by simp)
  have k1 := job_setC h1 (r.j.cells ++ [u])
  obtain ⟨j2, _⟩ := job_at (v := { v with jobs := X ++ { r with j := { r.j with cells := r.j.cells ++ [u] } } :: Y }) k1 (r := { r with j := { r.j with cells := r.j.cells ++ [u] } }) (by simp)
  have k2 := job_setF k1 { r.j with cells := r.j.cells ++ [u], moved := r.j.moved + 1 } rfl
  refine ⟨_, f1, ?_, k2⟩
  rw [hx] at e
  simp only [Rq.a, Rq.l] at e
  have hl : r.j.cells.length < 1000000 := by omega
  simp only [jobF, Jb.ent, Jb.kind] at j2
  simp [a_Device_read_cell, fnA_d, hr0, aFld_e j0, jobF, Jb.ent, Jb.kind, e, aFld_e j1, aIsL_d c1, aApp_d c1, hl, aCls_d j2, aFld_e j2, aSFC_e j2]
/-- a cell is read: it is refused -/
theorem dev_read0 {r : Jr} (h : C S f M N m (v.objs m d ++ L)) (hr : r ∈ v.jobs) (hN : N < 900) (hj : v.jobs.length < 1000) (ht0 : 0 ≤ r.j.tag) (ht3 : r.j.tag ≤ 3) (hm0 : 0 ≤ r.j.moved) (hm3 : r.j.moved ≤ 3)
    (hx : (ex M d (.dr (2 + r.j.tag) r.j.moved)).1 = .non) :
    ∃ (S' : Sto) (f' : MR → Nat) (v' : Dv), a_Device_read_cell [.ref v.id, .ref r.id] S = .ok .non S' ∧ C S' f' (acc M .dev d (.dr (2 + r.j.tag) r.j.moved)) (N + 1) m (v'.objs m d ++ L) ∧
      v' = { v with uw := v'.uw, jobs := v.jobs.filter fun q => !(q.j.seq == r.j.seq) } := by
  obtain ⟨S1, f1, e, h1⟩ := dev_access h hN (q := .dr (2 + r.j.tag) r.j.moved) ⟨rfl, by omega, by omega, hm0, hm3⟩
  have hd0 : S[v.id]? = some (.ins "Device" (devF v m d)) := h.has.at_ (v.id, .ins "Device" (devF v m d)) (by simp [Dv.objs])
  have hr0 : aRecv "Device" "access" (.ref v.id) S = .ok (.ref v.id) S := by rw [aRecv_e hd0]; simp [devF]
  have hd1 : S1[v.id]? = some (.ins "Device" (devF v m d)) := h1.has.at_ (v.id, .ins "Device" (devF v m d)) (by simp [Dv.objs])
  have hr1 : aRecv "Device" "drop" (.ref v.id) S1 = .ok (.ref v.id) S1 := by rw [aRecv_e hd1]; simp [devF]
  obtain ⟨j0, _⟩ := job_at h hr
  obtain ⟨S2, v', e2, h2, hv', _⟩ := dev_drop h1 hj hr
  refine ⟨S2, f1, v', ?_, h2, hv'⟩
  rw [hx] at e
  simp only [Rq.a, Rq.l] at e
  simp [a_Device_read_cell, fnA_d, hr0, aFld_e j0, jobF, Jb.ent, Jb.kind, e, hr1, e2]
/-- a cell is written: refused or done -/
theorem dev_write0 {r : Jr} {u : A} (h : C S f M N m (v.objs m d ++ L)) (hr : r ∈ v.jobs) (hN : N < 900) (hj : v.jobs.length < 1000) (ht0 : 0 ≤ r.j.tag) (ht3 : r.j.tag ≤ 3) (hm0 : 0 ≤ r.j.moved) (hm3 : r.j.moved ≤ 3)
    (hu : atI r.j.cells r.j.moved = some u) (hda : Da u) (hx : (ex M d (.dw (2 + r.j.tag) r.j.moved u)).1 = .bl false) :
    ∃ (S' : Sto) (f' : MR → Nat) (v' : Dv), a_Device_write_cell [.ref v.id, .ref r.id] S = .ok .non S' ∧ C S' f' (acc M .dev d (.dw (2 + r.j.tag) r.j.moved u)) (N + 1) m (v'.objs m d ++ L) ∧
      v' = { v with uw := v'.uw, jobs := v.jobs.filter fun q => !(q.j.seq == r.j.seq) } := by
  obtain ⟨S1, f1, e, h1⟩ := dev_access h hN (q := .dw (2 + r.j.tag) r.j.moved u) ⟨rfl, by omega, by omega, hm0, hm3, hda⟩
  have hd0 : S[v.id]? = some (.ins "Device" (devF v m d)) := h.has.at_ (v.id, .ins "Device" (devF v m d)) (by simp [Dv.objs])
  have hr0 : aRecv "Device" "access" (.ref v.id) S = .ok (.ref v.id) S := by rw [aRecv_e hd0]; simp [devF]
  have hd1 : S1[v.id]? = some (.ins "Device" (devF v m d)) := h1.has.at_ (v.id, .ins "Device" (devF v m d)) (by simp [Dv.objs])
  have hr1 : aRecv "Device" "drop" (.ref v.id) S1 = .ok (.ref v.id) S1 := by rw [aRecv_e hd1]; simp [devF]
  obtain ⟨j0, c0⟩ := job_at h hr
  obtain ⟨S2, v', e2, h2, hv', _⟩ := dev_drop h1 hj hr
  refine ⟨S2, f1, v', ?_, h2, hv'⟩
  rw [hx] at e
  simp only [Rq.a, Rq.l] at e
  simp [a_Device_write_cell, fnA_d, hr0, aFld_e j0, jobF, Jb.ent, Jb.kind, aIx_l c0, hu, e, hr1, e2]
theorem dev_write1 {X Y : List Jr} {r : Jr} {u : A} (h : C S f M N m ({ v with jobs := X ++ r :: Y }.objs m d ++ L)) (hN : N < 900) (ht0 : 0 ≤ r.j.tag) (ht3 : r.j.tag ≤ 3) (hm0 : 0 ≤ r.j.moved) (hm3 : r.j.moved ≤ 3)
    (hu : atI r.j.cells r.j.moved = some u) (hda : Da u) (hx : (ex M d (.dw (2 + r.j.tag) r.j.moved u)).1 = .bl true) :
    ∃ (S' : Sto) (f' : MR → Nat), a_Device_write_cell [.ref v.id, .ref r.id] S = .ok .non S' ∧
      C S' f' (acc M .dev d (.dw (2 + r.j.tag) r.j.moved u)) (N + 1) m ({ v with jobs := X ++ { r with j := { r.j with moved := r.j.moved + 1 } } :: Y }.objs m d ++ L) := by
  obtain ⟨S1, f1, e, h1⟩ := dev_access (v := { v with jobs := X ++ r :: Y }) h hN (q := .dw (2 + r.j.tag) r.j.moved u) ⟨rfl, by omega, by omega, hm0, hm3, hda⟩
  have hd0 : S[v.id]? = some (.ins "Device" (devF v m d)) := h.has.at_ (v.id, .ins "Device" (devF v m d)) (by simp [Dv.objs, devF])
  have hr0 : aRecv "Device" "access" (.ref v.id) S = .ok (.ref v.id) S := by rw [aRecv_e hd0]; simp [devF]
  obtain ⟨j0, c0⟩ := job_at (v := { v with jobs := X ++ r :: Y }) h (r := r) (by simp)
  obtain ⟨j1, _⟩ := job_at (v := { v with jobs := X ++ r :: Y }) h1 (r := r) (by simp)
  have k2 := job_setF h1 { r.j with moved := r.j.moved + 1 } rfl
  refine ⟨_, f1, ?_, k2⟩
  rw [hx] at e
  simp only [Rq.a, Rq.l] at e
  simp only [jobF, Jb.ent, Jb.kind] at j1
  simp [a_Device_write_cell, fnA_d, hr0, aFld_e j0, jobF, Jb.ent, Jb.kind, aIx_l c0, hu, e, aCls_d j1, aFld_e j1, aSFC_e j1]
/-- a write is decided -/
theorem dev_decideW {X Y : List Jr} {r : Jr} {a b c e0 : A} {gi : Int} (h : C S f M N m ({ v with jobs := X ++ r :: Y }.objs m d ++ L)) (hN : N < 900) (hw : r.j.wr = true) (hb0 : 0 ≤ r.j.block) (hb7 : r.j.block ≤ 7) (hg : v.gen = .int gi)
    (hc : r.j.cells = [a, b, c, e0]) (hda : ∀ x ∈ [a, b, c, e0], Da x) :
    ∃ (S' : Sto) (f' : MR → Nat), a_Device_decide [.ref v.id, .ref r.id] S = .ok .non S' ∧
      C S' f' (acc M .dev d (.commit r.j.block [a, b, c, e0] (.int gi) (.int r.j.seq))) (N + 1) m ({ v with jobs := X ++ { r with j := { r.j with dec := true } } :: Y }.objs m d ++ L) := by
  have k1 := job_setF h { r.j with dec := true } rfl
  obtain ⟨j0, _⟩ := job_at (v := { v with jobs := X ++ r :: Y }) h (r := r) (by simp)
  obtain ⟨j1, c1⟩ := job_at (v := { v with jobs := X ++ { r with j := { r.j with dec := true } } :: Y }) k1 (r := { r with j := { r.j with dec := true } }) (by simp)
  obtain ⟨S2, f2, e, h2⟩ := dev_access (v := { v with jobs := X ++ { r with j := { r.j with dec := true } } :: Y }) k1 hN (q := .commit r.j.block [a, b, c, e0] (.int gi) (.int r.j.seq)) ⟨rfl, hb0, hb7, rfl, hda, Da.int _, Da.int _⟩
  have hd1 : (S.set r.id (.ins "Job" (jobF r.cid { r.j with dec := true })))[v.id]? = some (.ins "Device" (devF v m d)) := k1.has.at_ (v.id, .ins "Device" (devF v m d)) (by simp [Dv.objs, devF])
  have hr1 : aRecv "Device" "access" (.ref v.id) (S.set r.id (.ins "Job" (jobF r.cid { r.j with dec := true }))) = .ok (.ref v.id) (S.set r.id (.ins "Job" (jobF r.cid { r.j with dec := true }))) := by rw [aRecv_e hd1]; simp [devF]
  have c1 : (S.set r.id (.ins "Job" (jobF r.cid { r.j with dec := true })))[r.cid]? = some (.lst [a, b, c, e0]) := by
    rw [← hc]
    exact c1
  refine ⟨S2, f2, ?_, h2⟩
  simp only [Rq.a, Rq.l] at e
  have hres : (ex M d (.commit r.j.block [a, b, c, e0] (.int gi) (.int r.j.seq))).1 = .non := rfl
  rw [hres] at e
  generalize eS1 : S.set r.id (.ins "Job" (jobF r.cid { r.j with dec := true })) = S1 at *
  simp only [jobF, Jb.ent, Jb.kind, hw, if_true] at j1 eS1
  simp [a_Device_decide, fnA_d, jobF, Jb.ent, Jb.kind, hw, aSF_e j0, eS1, aFld_e j1, bTuple_l c1, aFld_e hd1, devF, hg, hr1, e]
end
end RaM
/-! RaDev2: a completion; the first device. -/
namespace RaM
open RA RaP L2
section
variable {S : Sto} {f : MR → Nat} {M : Mem} {N m : Nat} {L : List (Nat × AO)} {v : Dv} {d : Bool}
@[simp] theorem phase_d' (S : Sto) (j : Int) : a_phase_of [.int j] S = .ok (.int (1 - j / 4 % 2)) S := by simp [a_phase_of, fnA_d]
theorem completion_d' (S : Sto) {t j : Int} (h0 : 0 ≤ t) (h3 : t ≤ 3) (j0 : 0 ≤ j) : a_completion [.int t, .int j] S = .ok (.tup [.int t, .str "done", .int (1 - j / 4 % 2)]) S := by
  simp [a_completion, a_is_count, fnA_d, h0, h3, j0]
/-- a completion that is refused -/
theorem dev_complete0 {r : Jr} (h : C S f M N m (v.objs m d ++ L)) (hr : r ∈ v.jobs) (hN : N < 900) (hj : v.jobs.length < 1000) (ht0 : 0 ≤ r.j.tag) (ht3 : r.j.tag ≤ 3) (hd0 : 0 ≤ v.done)
    (hx : (ex M d (.dw 1 (v.done % 4) (.tup [.int r.j.tag, .str "done", .int (1 - v.done / 4 % 2)]))).1 = .bl false) :
    ∃ (S' : Sto) (f' : MR → Nat) (v' : Dv), a_Device_complete [.ref v.id, .ref r.id] S = .ok .non S' ∧ C S' f' (acc M .dev d (.dw 1 (v.done % 4) (.tup [.int r.j.tag, .str "done", .int (1 - v.done / 4 % 2)]))) (N + 1) m (v'.objs m d ++ L) ∧
      v' = { v with uw := v'.uw, jobs := v.jobs.filter fun q => !(q.j.seq == r.j.seq) } := by
  have hd : S[v.id]? = some (.ins "Device" (devF v m d)) := h.has.at_ (v.id, .ins "Device" (devF v m d)) (by simp [Dv.objs])
  have hr1 : aRecv "Device" "drop" (.ref v.id) S = .ok (.ref v.id) S := by rw [aRecv_e hd]; simp [devF]
  have j0 : S[r.id]? = some (.ins "Job" (jobF r.cid r.j)) := (job_at h hr).1
  obtain ⟨S1, v1, e1, h1, hv1, hkeep⟩ := dev_drop h hj hr
  obtain ⟨S2, f2, e2, h2⟩ := dev_access h1 hN (q := .dw 1 (v.done % 4) (.tup [.int r.j.tag, .str "done", .int (1 - v.done / 4 % 2)])) ⟨rfl, by omega, by omega, by omega, by omega, by simp [Da, A.dat', A.dats']⟩
  have hd1 : S1[v1.id]? = some (.ins "Device" (devF v1 m d)) := h1.has.at_ (v1.id, .ins "Device" (devF v1 m d)) (by simp [Dv.objs])
  have hid : v1.id = v.id := by rw [hv1]
  have hdn : v1.done = v.done := by rw [hv1]
  have htk : v1.taken = v.taken := by rw [hv1]
  rw [hid] at hd1 e2
  have hr2 : aRecv "Device" "access" (.ref v.id) S1 = .ok (.ref v.id) S1 := by rw [aRecv_e hd1]; simp [devF]
  rw [hx] at e2
  simp only [Rq.a, Rq.l] at e2
  refine ⟨S2, f2, v1, ?_, h2, hv1⟩
  have hne : v.id ≠ r.id := fun z => by
    rw [z] at hd
    rw [hd] at j0
    injection j0 with j0
    injection j0 with j0 _
    exact absurd j0 (by decide)
  have j1 : S1[r.id]? = some (.ins "Job" (jobF r.cid r.j)) := (hkeep r.id (List.getElem?_eq_some_iff.mp j0).1 hne).trans j0
  simp only [devF] at hd1
  simp [a_Device_complete, a_slot_of, fnA_d, hr1, e1, aFld_e j1, jobF, Jb.ent, Jb.kind, aFld_e hd1, hdn, completion_d' S1 ht0 ht3 hd0, hr2, e2]
end
end RaM
/-! RaDev3: a completion that is made; a fetch; a step of the device. -/
namespace RaM
open RA RaP L2
section
variable {S : Sto} {f : MR → Nat} {M : Mem} {N m : Nat} {L : List (Nat × AO)} {v : Dv} {d : Bool}
/-- a completion that is made -/
theorem dev_complete1 {r : Jr} (h : C S f M N m (v.objs m d ++ L)) (hr : r ∈ v.jobs) (hN : N < 900) (hj : v.jobs.length < 1000) (ht0 : 0 ≤ r.j.tag) (ht3 : r.j.tag ≤ 3) (hd0 : 0 ≤ v.done)
    (hx : (ex M d (.dw 1 (v.done % 4) (.tup [.int r.j.tag, .str "done", .int (1 - v.done / 4 % 2)]))).1 = .bl true) :
    ∃ (S' : Sto) (f' : MR → Nat) (v' : Dv), a_Device_complete [.ref v.id, .ref r.id] S = .ok .non S' ∧ C S' f' (acc M .dev d (.dw 1 (v.done % 4) (.tup [.int r.j.tag, .str "done", .int (1 - v.done / 4 % 2)]))) (N + 1) m (v'.objs m d ++ L) ∧
      v' = { v with uw := v'.uw, pd := v'.pd, done := v.done + 1, jobs := v.jobs.filter fun q => !(q.j.seq == r.j.seq), pend := [.tup [.str "write", .int (51 + 4 * di d), .int 1]] } := by
  have hd : S[v.id]? = some (.ins "Device" (devF v m d)) := h.has.at_ (v.id, .ins "Device" (devF v m d)) (by simp [Dv.objs])
  have hr1 : aRecv "Device" "drop" (.ref v.id) S = .ok (.ref v.id) S := by rw [aRecv_e hd]; simp [devF]
  have j0 : S[r.id]? = some (.ins "Job" (jobF r.cid r.j)) := (job_at h hr).1
  obtain ⟨S1, v1, e1, h1, hv1, hkeep⟩ := dev_drop h hj hr
  obtain ⟨S2, f2, e2, h2⟩ := dev_access h1 hN (q := .dw 1 (v.done % 4) (.tup [.int r.j.tag, .str "done", .int (1 - v.done / 4 % 2)])) ⟨rfl, by omega, by omega, by omega, by omega, by simp [Da, A.dat', A.dats']⟩
  have hd1 : S1[v1.id]? = some (.ins "Device" (devF v1 m d)) := h1.has.at_ (v1.id, .ins "Device" (devF v1 m d)) (by simp [Dv.objs])
  have hid : v1.id = v.id := by rw [hv1]
  have hdn : v1.done = v.done := by rw [hv1]
  rw [hid] at hd1 e2
  have hr2 : aRecv "Device" "access" (.ref v.id) S1 = .ok (.ref v.id) S1 := by rw [aRecv_e hd1]; simp [devF]
  rw [hx] at e2
  simp only [Rq.a, Rq.l] at e2
  have hne : v.id ≠ r.id := fun z => by
    rw [z] at hd
    rw [hd] at j0
    injection j0 with j0
    injection j0 with j0 _
    exact absurd j0 (by decide)
  have j1 : S1[r.id]? = some (.ins "Job" (jobF r.cid r.j)) := (hkeep r.id (List.getElem?_eq_some_iff.mp j0).1 hne).trans j0
  generalize hM : acc M .dev d (.dw 1 (v.done % 4) (.tup [.int r.j.tag, .str "done", .int (1 - v.done / 4 % 2)])) = M2 at *
  have k0 : C S2 f2 M2 (N + 1) m ((v1.id, .ins "Device" (devF v1 m d)) :: ((v1.uw, .lst (v1.jobs.map fun r => .ref r.id)) :: (v1.pd, .lst v1.pend) :: v1.jobs.flatMap Jr.objs ++ L)) := h2
  have i0 := k0.has.hd
  have k1 := k0.set (.ins "Device" (devF { v1 with done := v1.done + 1 } m d))
  have i1 := k1.has.hd
  generalize e3 : S2.set v1.id (.ins "Device" (devF { v1 with done := v1.done + 1 } m d)) = S3 at *
  have k2 := (k1.new (AO.lst [.tup [.str "write", .int (51 + 4 * di d), .int 1]])).swap
  have i2 := k2.has.hd
  generalize en : S3.length = n at *
  generalize e4 : S3 ++ [AO.lst [.tup [.str "write", .int (51 + 4 * di d), .int 1]]] = S4 at *
  have k3 := k2.set (.ins "Device" (devF { v1 with done := v1.done + 1, pd := n } m d))
  refine ⟨S4.set v1.id (.ins "Device" (devF { v1 with done := v1.done + 1, pd := n } m d)), f2, { v1 with done := v1.done + 1, pd := n, pend := [.tup [.str "write", .int (51 + 4 * di d), .int 1]] }, ?_, ?_, ?_⟩
  · rw [hid] at i0 i1 i2 e3 ⊢
    simp only [devF] at i0 i1 i2 e3 hd1 ⊢
    simp [a_Device_complete, a_slot_of, fnA_d, hr1, e1, aFld_e j1, jobF, Jb.ent, Jb.kind, aFld_e hd1, hdn, completion_d' S1 ht0 ht3 hd0, hr2, e2, aCls_d i0, aFld_e i0, aSFC_e i0]
    rw [hdn] at e3
    simp [e3, aFld_e i1, e4, en, aSF_e i2, hdn]
  · refine (k3.sub (List.Sublist.cons₂ _ (List.Sublist.cons₂ _ (?_ : List.Sublist ((v1.uw, .lst (v1.jobs.map fun r => .ref r.id)) :: v1.jobs.flatMap Jr.objs ++ L) _)))).perm (List.Perm.cons _ (List.Perm.swap _ _ _))
    exact List.Sublist.cons₂ _ (List.sublist_cons_self _ _)
  · rw [hv1]
/-- a job's content is another list -/
theorem job_setN {X Y : List Jr} {r : Jr} (h : C S f M N m ({ v with jobs := X ++ r :: Y }.objs m d ++ L)) (j' : Jb) :
    C ((S ++ [AO.lst j'.cells]).set r.id (.ins "Job" (jobF S.length j'))) f M N m ({ v with jobs := X ++ Jr.mk r.id S.length j' :: Y }.objs m d ++ L) := by
  have sh : ∀ r' : Jr, r'.id = r.id → ({ v with jobs := X ++ r' :: Y }.objs m d ++ L) = ((v.id, AO.ins "Device" (devF v m d)) :: (v.uw, AO.lst ((X ++ r :: Y).map fun r => A.ref r.id)) :: (v.pd, .lst v.pend) :: X.flatMap Jr.objs) ++ ((r'.id, AO.ins "Job" (jobF r'.cid r'.j)) :: (r'.cid, .lst r'.j.cells) :: (Y.flatMap Jr.objs ++ L)) := fun r' hr' => by
    simp [Dv.objs, Jr.objs, devF, hr']
  rw [sh r rfl] at h
  rw [sh (Jr.mk r.id S.length j') rfl]
  generalize ((v.id, AO.ins "Device" (devF v m d)) :: (v.uw, AO.lst ((X ++ r :: Y).map fun r => A.ref r.id)) :: (v.pd, AO.lst v.pend) :: X.flatMap Jr.objs) = Z at *
  have k1 := h.new (AO.lst j'.cells)
  have k2 := (k1.perm (List.perm_middle (l₁ := (S.length, AO.lst j'.cells) :: Z))).set (.ins "Job" (jobF S.length j'))
  have k3 := k2.sub (List.Sublist.cons₂ _ (List.Sublist.cons₂ _ (List.Sublist.append (List.Sublist.refl Z) (List.sublist_cons_self _ (Y.flatMap Jr.objs ++ L)))))
  exact k3.perm (List.perm_append_comm_assoc [(r.id, AO.ins "Job" (jobF S.length j')), (S.length, AO.lst j'.cells)] Z (Y.flatMap Jr.objs ++ L))
/-- a read is decided -/
theorem dev_decideR {X Y : List Jr} {r : Jr} {cs : List A} {gi : Int} (h : C S f M N m ({ v with jobs := X ++ r :: Y }.objs m d ++ L)) (hN : N < 900) (hw : r.j.wr = false) (hb0 : 0 ≤ r.j.block) (hb7 : r.j.block ≤ 7) (hg : v.gen = .int gi)
    (hx : (ex M d (.fetch r.j.block (.int gi) (.int r.j.seq))).1 = .tup cs) :
    ∃ (S' : Sto) (f' : MR → Nat) (c' : Nat), a_Device_decide [.ref v.id, .ref r.id] S = .ok .non S' ∧
      C S' f' (acc M .dev d (.fetch r.j.block (.int gi) (.int r.j.seq))) (N + 1) m ({ v with jobs := X ++ Jr.mk r.id c' { r.j with dec := true, cells := cs } :: Y }.objs m d ++ L) := by
  have k1 := job_setF h { r.j with dec := true } rfl
  obtain ⟨j0, _⟩ := job_at (v := { v with jobs := X ++ r :: Y }) h (r := r) (by simp)
  obtain ⟨j1, c1⟩ := job_at (v := { v with jobs := X ++ { r with j := { r.j with dec := true } } :: Y }) k1 (r := { r with j := { r.j with dec := true } }) (by simp)
  obtain ⟨S2, f2, e, h2⟩ := dev_access (v := { v with jobs := X ++ { r with j := { r.j with dec := true } } :: Y }) k1 hN (q := .fetch r.j.block (.int gi) (.int r.j.seq)) ⟨rfl, hb0, hb7, Da.int _, Da.int _⟩
  have hd1 : (S.set r.id (.ins "Job" (jobF r.cid { r.j with dec := true })))[v.id]? = some (.ins "Device" (devF v m d)) := k1.has.at_ (v.id, .ins "Device" (devF v m d)) (by simp [Dv.objs, devF])
  have hr1 : aRecv "Device" "access" (.ref v.id) (S.set r.id (.ins "Job" (jobF r.cid { r.j with dec := true }))) = .ok (.ref v.id) (S.set r.id (.ins "Job" (jobF r.cid { r.j with dec := true }))) := by rw [aRecv_e hd1]; simp [devF]
  have k3 := job_setN (r := { r with j := { r.j with dec := true } }) h2 { r.j with dec := true, cells := cs }
  obtain ⟨j2, _⟩ := job_at (v := { v with jobs := X ++ { r with j := { r.j with dec := true } } :: Y }) h2 (r := { r with j := { r.j with dec := true } }) (by simp)
  refine ⟨_, f2, S2.length, ?_, k3⟩
  simp only [Rq.a, Rq.l] at e
  rw [hx] at e
  generalize eS1 : S.set r.id (.ins "Job" (jobF r.cid { r.j with dec := true })) = S1 at *
  have j3 : (S2 ++ [AO.lst cs])[r.id]? = some (AO.ins "Job" (jobF r.cid { r.j with dec := true })) := by rw [List.getElem?_append_left (List.getElem?_eq_some_iff.mp j2).1]; exact j2
  simp only [jobF, Jb.ent, Jb.kind, hw] at j1 j2 j3 eS1
  simp at eS1
  simp [a_Device_decide, fnA_d, jobF, Jb.ent, Jb.kind, hw, aSF_e j0, eS1, aFld_e j1, aFld_e hd1, devF, hg, hr1, e, aSF_e j3]
end
end RaM
/-! RaEq: plain data of a depth, == of it. -/
namespace RaM
open RA RaP L2
open PySem (PyData)
/-- plain data of a depth -/
def Dq (n : Nat) (a : A) : Prop := ∃ dd, (∀ rf, A.dat rf a = some dd) ∧ PyData.eqv dd dd = true ∧ dd.depth ≤ n
def Dqs (n : Nat) (as : List A) : Prop := ∃ ds, (∀ rf, A.dats rf as = some ds) ∧ PyData.eqvAll ds ds = true ∧ PyData.depthAll ds ≤ n
theorem Dq.mono {n m : Nat} {a : A} (h : Dq n a) (l : n ≤ m) : Dq m a := by
  obtain ⟨d, e, q, k⟩ := h
  exact ⟨d, e, q, by omega⟩
theorem Dq.int (i : Int) : Dq 1 (.int i) := ⟨.int i, fun _ => rfl, by simp [PyData.eqv], by simp [PyData.depth]⟩
theorem Dq.non : Dq 1 .non := ⟨.none, fun _ => rfl, rfl, by simp [PyData.depth]⟩
theorem Dq.bl (b : Bool) : Dq 1 (.bl b) := ⟨.bool b, fun _ => rfl, by simp [PyData.eqv], by simp [PyData.depth]⟩
theorem Dq.str (s : String) : Dq 1 (.str s) := ⟨.str (PySem.Str.ofString s), fun _ => rfl, by simp [PyData.eqv], by simp [PyData.depth]⟩
theorem Dqs.of {n : Nat} : ∀ {as : List A}, (∀ a ∈ as, Dq n a) → Dqs n as
  | [], _ => ⟨[], fun _ => rfl, rfl, by simp [PyData.depthAll]⟩
  | a :: as, h => by
    obtain ⟨d, e, q, k⟩ := h a (by simp)
    obtain ⟨ds, es, qs, ks⟩ := Dqs.of (as := as) fun b hb => h b (by simp [hb])
    exact ⟨d :: ds, fun rf => by rw [A.dats, e rf, es rf], by rw [PyData.eqvAll, q, qs]; rfl, by rw [PyData.depthAll]; omega⟩
theorem Dq.tup {n : Nat} {as : List A} (h : ∀ a ∈ as, Dq n a) : Dq (n + 1) (.tup as) := by
  obtain ⟨ds, es, qs, ks⟩ := Dqs.of h
  exact ⟨.tuple ds, fun rf => by rw [A.dat, es rf], by rw [PyData.eqv]; exact qs, by rw [PyData.depth]; omega⟩
theorem dq_self {n : Nat} {a : A} (h : Dq n a) (hn : n ≤ 60) (S : Sto) : aEq a a S = .ok (.bl true) S ∧ aNe a a S = .ok (.bl false) S := by
  obtain ⟨d, e, q, k⟩ := h
  have c : min d.depth d.depth ≤ 64 := by omega
  constructor
  · simp only [aEq, aEqB, toD, e, if_pos c, q]
  · simp only [aNe, aEqB, toD, e, if_pos c, q]; rfl
theorem dq_lst {n : Nat} {xs : List A} (h : ∀ a ∈ xs, Dq n a) (hn : n ≤ 60) {S : Sto} {a b : Nat} (ha : S[a]? = some (.lst xs)) (hb : S[b]? = some (.lst xs)) : aEq (.ref a) (.ref b) S = .ok (.bl true) S ∧ aNe (.ref a) (.ref b) S = .ok (.bl false) S := by
  obtain ⟨ds, es, qs, ks⟩ := Dqs.of h
  have c : min (PyData.list ds).depth (PyData.list ds).depth ≤ 64 := by simp only [PyData.depth]; omega
  have q : PyData.eqv (.list ds) (.list ds) = true := by rw [PyData.eqv]; exact qs
  constructor
  · simp only [aEq, aEqB, toD_lst ha (es _), toD_lst hb (es _), if_pos c, q]
  · simp only [aNe, aEqB, toD_lst ha (es _), toD_lst hb (es _), if_pos c, q]; rfl
/-- a value of the memory -/
def V3 (x : A) : Prop := Da x ∧ Dq 3 x
theorem V3.int (i : Int) : V3 (.int i) := ⟨Da.int i, (Dq.int i).mono (by decide)⟩
theorem V3.non : V3 .non := ⟨Da.non, Dq.non.mono (by decide)⟩
theorem V3.flat {xs : List A} (h : ∀ x ∈ xs, x = .non ∨ (∃ i, x = .int i) ∨ ∃ s, x = .str s) : V3 (.tup xs) := by
  refine ⟨Da.tup.mpr fun x hx => ?_, (Dq.tup (n := 1) fun x hx => ?_).mono (by decide)⟩
  · rcases h x hx with rfl | ⟨i, rfl⟩ | ⟨s, rfl⟩
    · exact Da.non
    · exact Da.int i
    · exact Da.str s
  · rcases h x hx with rfl | ⟨i, rfl⟩ | ⟨s, rfl⟩
    · exact Dq.non
    · exact Dq.int i
    · exact Dq.str s
end RaM
/-! RaDev4: a step of the device, over the record alone. -/
namespace RaM
open RA RaP L2
structure GoodJ (j : Jb) : Prop where
  t0 : 0 ≤ j.tag
  t3 : j.tag ≤ 3
  b0 : 0 ≤ j.block
  b7 : j.block ≤ 7
  s0 : 0 ≤ j.seq
  m0 : 0 ≤ j.moved
  m4 : j.moved ≤ 4
  cd : ∀ x ∈ j.cells, V3 x
  w : j.wr = true → (j.cells.length : Int) = j.moved ∧ (j.dec = true → j.moved = 4)
  r0 : j.wr = false → j.dec = false → j.moved = 0
  r1 : j.wr = false → j.dec = true → j.cells.length = 4
structure Good (d : Bool) (D : Dd) : Prop where
  len : D.jobs.length ≤ 2
  jobs : ∀ j ∈ D.jobs, GoodJ j
  nd : (D.jobs.map (·.seq)).Nodup
  lt : ∀ j ∈ D.jobs, j.seq < D.taken
  tk : 0 ≤ D.taken
  dn : 0 ≤ D.done
  pend : D.pend = [] ∨ ∃ c x, D.pend = [(Rq.wr c (.int x)).a] ∧ 50 + 4 * di d ≤ c ∧ c ≤ 51 + 4 * di d
def dropJ (D : Dd) (s : Int) : Dd := { D with jobs := D.jobs.filter fun q => !(q.seq == s) }
def Pk (D : Dd) (c : Int) (X : List Jb) (j : Jb) (Y : List Jb) : Prop := D.pend = [] ∧ c % 4 ≠ 0 ∧ ¬(D.jobs = [] ∨ c % 4 = 1 ∧ D.jobs.length < 2) ∧ D.jobs = X ++ j :: Y ∧ (X.length : Int) = c / 4 % D.jobs.length
/-- the entry that says done -/
def doneE (j : Jb) (n : Int) : A := .tup [.int j.tag, .str "done", .int (1 - n / 4 % 2)]
inductive Stp (d : Bool) (D : Dd) (c : Int) : Rq → A → Dd → Prop
  | pend (q : Rq) (res : A) (h : D.pend = [q.a]) : Stp d D c q res { D with pend := [] }
  | reset (x : Int) (h : D.pend = []) (hc : c % 4 = 0) : Stp d D c (.rd (49 + 4 * di d)) (.int x) (dreset D d x)
  | descr0 (res : A) (h : D.pend = []) (hc : c % 4 ≠ 0) (hj : D.jobs = [] ∨ c % 4 = 1 ∧ D.jobs.length < 2)
      (hr : res = .non ∨ res = .tup [.non] ∨ ∃ j : Jb, res = .tup [j.ent] ∧ ¬(j.ph = 1 - D.taken / 4 % 2 ∧ j.seq = D.taken)) : Stp d D c (.dr 0 (D.taken % 4)) res D
  | descr1 (tag block : Int) (wr : Bool) (t0 : 0 ≤ tag) (t3 : tag ≤ 3) (b0 : 0 ≤ block) (b7 : block ≤ 7) (h : D.pend = []) (hc : c % 4 ≠ 0) (hj : D.jobs = [] ∨ c % 4 = 1 ∧ D.jobs.length < 2) :
      Stp d D c (.dr 0 (D.taken % 4)) (.tup [(Jb.mk tag wr block (1 - D.taken / 4 % 2) D.taken [] 0 false).ent]) { D with taken := D.taken + 1, jobs := D.jobs ++ [Jb.mk tag wr block (1 - D.taken / 4 % 2) D.taken [] 0 false] }
  | read1 (X : List Jb) (j : Jb) (Y : List Jb) (u : A) (p : Pk D c X j Y) (hd : j.dec = false) (hw : j.wr = true) (hm : j.moved < 4) (hu : V3 u) :
      Stp d D c (.dr (2 + j.tag) j.moved) (.tup [u]) { D with jobs := X ++ { j with cells := j.cells ++ [u], moved := j.moved + 1 } :: Y }
  | read0 (X : List Jb) (j : Jb) (Y : List Jb) (p : Pk D c X j Y) (hd : j.dec = false) (hw : j.wr = true) (hm : j.moved < 4) : Stp d D c (.dr (2 + j.tag) j.moved) .non (dropJ D j.seq)
  | commit (X : List Jb) (j : Jb) (Y : List Jb) (p : Pk D c X j Y) (hd : j.dec = false) (hw : j.wr = true) (hm : ¬ j.moved < 4) :
      Stp d D c (.commit j.block j.cells (.int D.gen) (.int j.seq)) .non { D with jobs := X ++ { j with dec := true } :: Y }
  | fetch (X : List Jb) (j : Jb) (Y : List Jb) (cs : List A) (p : Pk D c X j Y) (hd : j.dec = false) (hw : j.wr = false) (h4 : cs.length = 4) (hcs : ∀ u ∈ cs, V3 u) :
      Stp d D c (.fetch j.block (.int D.gen) (.int j.seq)) (.tup cs) { D with jobs := X ++ { j with dec := true, cells := cs } :: Y }
  | write1 (X : List Jb) (j : Jb) (Y : List Jb) (u : A) (p : Pk D c X j Y) (hd : j.dec = true) (hw : j.wr = false) (hm : j.moved < 4) (hu : atI j.cells j.moved = some u) :
      Stp d D c (.dw (2 + j.tag) j.moved u) (.bl true) { D with jobs := X ++ { j with moved := j.moved + 1 } :: Y }
  | write0 (X : List Jb) (j : Jb) (Y : List Jb) (u : A) (p : Pk D c X j Y) (hd : j.dec = true) (hw : j.wr = false) (hm : j.moved < 4) (hu : atI j.cells j.moved = some u) :
      Stp d D c (.dw (2 + j.tag) j.moved u) (.bl false) (dropJ D j.seq)
  | comp1 (X : List Jb) (j : Jb) (Y : List Jb) (p : Pk D c X j Y) (hd : j.dec = true) (hm : ¬(j.wr = false ∧ j.moved < 4)) :
      Stp d D c (.dw 1 (D.done % 4) (doneE j D.done)) (.bl true) { dropJ D j.seq with done := D.done + 1, pend := [.tup [.str "write", .int (51 + 4 * di d), .int 1]] }
  | comp0 (X : List Jb) (j : Jb) (Y : List Jb) (p : Pk D c X j Y) (hd : j.dec = true) (hm : ¬(j.wr = false ∧ j.moved < 4)) :
      Stp d D c (.dw 1 (D.done % 4) (doneE j D.done)) (.bl false) (dropJ D j.seq)
/-- what the device may find in the memory -/
structure MF (M : Mem) (d : Bool) : Prop where
  reset : ∃ x, M.held.getD (49 + 4 * di d).toNat .non = .int x
  desc : ∀ i, 0 ≤ i → i ≤ 3 → (ex M d (.dr 0 i)).1 = .non ∨ (ex M d (.dr 0 i)).1 = .tup [.non] ∨
    ∃ j : Jb, (ex M d (.dr 0 i)).1 = .tup [j.ent] ∧ 0 ≤ j.tag ∧ j.tag ≤ 3 ∧ 0 ≤ j.block ∧ j.block ≤ 7 ∧ 0 ≤ j.seq ∧ 0 ≤ j.ph ∧ j.ph ≤ 1
  blk : ∀ x ∈ (M.sd d).blocks, ∃ cs, x = .tup cs ∧ cs.length = 4 ∧ ∀ u ∈ cs, V3 u
  vals : ∀ x ∈ M.held, V3 x
section
variable {S : Sto} {f : MR → Nat} {M : Mem} {N m : Nat} {L : List (Nat × AO)} {v : Dv} {d : Bool} {D : Dd}
theorem ex_dr (M : Mem) (hw : ∀ x ∈ M.held, V3 x) (d : Bool) (p i : Int) (hi0 : 0 ≤ i) (hi3 : i ≤ 3) : (ex M d (.dr p i)).1 = .non ∨ ∃ u, (ex M d (.dr p i)).1 = .tup [u] ∧ V3 u := by
  simp only [ex]
  split
  · refine .inr ⟨_, rfl, ?_⟩
    rw [List.getD_eq_getElem?_getD]
    cases hz : M.held[(24 * di d + 4 * _ + i).toNat]? with
    | none => exact V3.non
    | some u => exact hw _ (List.mem_of_getElem? hz)
  · exact .inl rfl
theorem ex_dw (M : Mem) (d : Bool) (p i : Int) (v : A) : (ex M d (.dw p i v)).1 = .bl true ∨ (ex M d (.dw p i v)).1 = .bl false := by
  simp only [ex]
  split
  · exact .inl rfl
  · exact .inr rfl
theorem new_descr_d (S : Sto) (j : Jb) (n : Int) (t0 : 0 ≤ j.tag) (t3 : j.tag ≤ 3) (b0 : 0 ≤ j.block) (b7 : j.block ≤ 7) (s0 : 0 ≤ j.seq) (p0 : 0 ≤ j.ph) (p1 : j.ph ≤ 1) :
    a_is_new_descriptor [j.ent, .int n] S = .ok (.bl (decide (j.ph = 1 - n / 4 % 2 ∧ j.seq = n))) S := by
  obtain ⟨tag, wr, block, ph, seq, cells, moved, dec⟩ := j
  simp only at t0 t3 b0 b7 s0 p0 p1
  have hp : ∀ S : Sto, a_are_parts [.int tag, .str (Jb.kind ⟨tag, wr, block, ph, seq, cells, moved, dec⟩), .int block, .int seq] S = .ok (.bl true) S := fun S => by
    have nk := aNi_s (S := S) (s := Jb.kind ⟨tag, wr, block, ph, seq, cells, moved, dec⟩) ["read", "write"]
    have hk : (["read", "write"].any fun t => decide (t = Jb.kind ⟨tag, wr, block, ph, seq, cells, moved, dec⟩)) = true := by cases wr <;> rfl
    rw [hk] at nk
    simp only [List.map_cons, List.map_nil, Bool.not_true] at nk
    generalize Jb.kind ⟨tag, wr, block, ph, seq, cells, moved, dec⟩ = kd at nk
    simp [a_are_parts, a_is_count, fnA_d, t0, t3, b0, b7, s0, nk]
  simp only [Jb.ent]
  generalize Jb.kind ⟨tag, wr, block, ph, seq, cells, moved, dec⟩ = kd at hp
  generalize hz : 1 - n / 4 % 2 = z
  simp only [a_is_new_descriptor]
  rw [fn2]
  simp [hp, p0, p1, hz]
  by_cases c1 : ph = z
  · have : (ph == z) = true := by simp [c1]
    rw [this]
    by_cases c2 : seq = n <;> simp [c1, c2]
  · have : (ph == z) = false := by simp [c1]
    rw [this]
    simp [c1]
/-! ### the step, from its parts -/
theorem hd_of (h : C S f M N m (v.objs m d ++ L)) : S[v.id]? = some (.ins "Device" (devF v m d)) := h.has.at_ (v.id, .ins "Device" (devF v m d)) (by simp [Dv.objs])
theorem hu_of (h : C S f M N m (v.objs m d ++ L)) : S[v.uw]? = some (.lst (v.jobs.map fun r => .ref r.id)) := h.has.at_ (v.uw, .lst (v.jobs.map fun r => .ref r.id)) (by simp [Dv.objs])
theorem hp_of (h : C S f M N m (v.objs m d ++ L)) : S[v.pd]? = some (.lst v.pend) := h.has.at_ (v.pd, .lst v.pend) (by simp [Dv.objs])
theorem step_reset (h : C S f M N m (v.objs m d ++ L)) {c : Int} {S' : Sto} (hp : v.pend = []) (hc : c % 4 = 0) (e : a_Device_look_for_reset [.ref v.id] S = .ok .non S') : a_Device_step [.ref v.id, .int c] S = .ok (.bl true) S' := by
  have hd := hd_of h
  have hq := hp_of h
  have hr : aRecv "Device" "look_for_reset" (.ref v.id) S = .ok (.ref v.id) S := by rw [aRecv_e hd]; simp [devF]
  rw [hp] at hq
  simp [a_Device_step, fnA_d, aFld_e hd, devF, aTru_l hq, hc, hr, e]
theorem step_descr (h : C S f M N m (v.objs m d ++ L)) {c : Int} {S' : Sto} (hl : v.jobs.length ≤ 2) (hp : v.pend = []) (hc : c % 4 ≠ 0) (hj : v.jobs = [] ∨ c % 4 = 1 ∧ v.jobs.length < 2) (e : a_Device_look_for_descriptor [.ref v.id] S = .ok .non S') : a_Device_step [.ref v.id, .int c] S = .ok (.bl true) S' := by
  have hd := hd_of h
  have hq := hp_of h
  have hu := hu_of h
  have hr : aRecv "Device" "look_for_descriptor" (.ref v.id) S = .ok (.ref v.id) S := by rw [aRecv_e hd]; simp [devF]
  rw [hp] at hq
  rcases hj with hj | ⟨h1, h2⟩
  · rw [hj] at hu
    simp [a_Device_step, fnA_d, aFld_e hd, devF, aTru_l hq, aTru_l hu, hc, hr, e]
  · cases hz : v.jobs with
    | nil =>
      rw [hz] at hu
      simp [a_Device_step, fnA_d, aFld_e hd, devF, aTru_l hq, aTru_l hu, hc, hr, e]
    | cons r rest =>
      rw [hz] at hu h2
      have : rest = [] := by
        cases rest with
        | nil => rfl
        | cons _ _ => simp only [List.length_cons] at h2; omega
      subst this
      simp [a_Device_step, fnA_d, aFld_e hd, devF, aTru_l hq, aTru_l hu, bLen_l hu, hc, h1, hr, e]
theorem step_go (h : C S f M N m (v.objs m d ++ L)) {c : Int} {S' : Sto} {r : Jr} (hl : v.jobs.length ≤ 2) (hp : v.pend = []) (hc : c % 4 ≠ 0) (hj : ¬(v.jobs = [] ∨ c % 4 = 1 ∧ v.jobs.length < 2)) (hx : atI v.jobs (c / 4 % v.jobs.length) = some r)
    (e : a_Device_go_on [.ref v.id, .ref r.id] S = .ok .non S') : a_Device_step [.ref v.id, .int c] S = .ok (.bl true) S' := by
  have hd := hd_of h
  have hq := hp_of h
  have hu := hu_of h
  have hr : aRecv "Device" "go_on" (.ref v.id) S = .ok (.ref v.id) S := by rw [aRecv_e hd]; simp [devF]
  rw [hp] at hq
  have ne : v.jobs ≠ [] := fun z => hj (.inl z)
  have lp : 0 < v.jobs.length := List.length_pos_iff.mpr ne
  have hi0 : 0 ≤ c / 4 % (v.jobs.length : Int) := Int.emod_nonneg _ (by omega)
  have hi1 : c / 4 % (v.jobs.length : Int) < v.jobs.length := Int.emod_lt_of_pos _ (by omega)
  have hx2 : atI (v.jobs.map fun r => A.ref r.id) (c / 4 % v.jobs.length) = some (.ref r.id) := by
    rw [atI_n hi0 (by simpa using hi1), List.getElem?_map]
    rw [atI_n hi0 hi1] at hx
    rw [hx]
    rfl
  have hi : ((v.jobs.map fun r => A.ref r.id).isEmpty) = false := by
    cases hz : v.jobs with
    | nil => exact absurd hz ne
    | cons _ _ => rfl
  have hcond : 1 < c % 4 ∨ v.jobs.length = 2 := by
    by_cases q : c % 4 = 1
    · exact .inr (by have := fun z => hj (.inr ⟨q, z⟩); omega)
    · exact .inl (by have := Int.emod_nonneg c (show (4 : Int) ≠ 0 by decide); omega)
  have bl := bLen_l hu
  simp only [List.length_map] at bl
  by_cases q : 1 < c % 4
  · simp [a_Device_step, fnA_d, aFld_e hd, devF, aTru_l hq, aTru_l hu, bl, hc, hi, q, hr, aIx_l hu, hx2, e, lp, show v.jobs.length < 1073741824 by omega]
  · have l2 : v.jobs.length = 2 := by omega
    rw [l2] at bl hx2
    simp [a_Device_step, fnA_d, aFld_e hd, devF, aTru_l hq, aTru_l hu, bl, hc, hi, q, hr, aIx_l hu, hx2, e]
    simp at hx2
    simp [hx2, e]
end
end RaM
/-! RaDev5: the device's step follows the record. -/
namespace RaM
open RA RaP L2
section
variable {S : Sto} {f : MR → Nat} {M : Mem} {N m : Nat} {L : List (Nat × AO)} {v : Dv} {d : Bool} {D : Dd}
theorem go_read (h : C S f M N m (v.objs m d ++ L)) {r : Jr} {S' : Sto} (hr : r ∈ v.jobs) (hd : r.j.dec = false) (hw : r.j.wr = true) (hm : r.j.moved < 4) (e : a_Device_read_cell [.ref v.id, .ref r.id] S = .ok .non S') : a_Device_go_on [.ref v.id, .ref r.id] S = .ok .non S' := by
  obtain ⟨j0, _⟩ := job_at h hr
  have hr0 : aRecv "Device" "read_cell" (.ref v.id) S = .ok (.ref v.id) S := by rw [aRecv_e (hd_of h)]; simp [devF]
  simp only [jobF, Jb.ent, Jb.kind, hd, hw] at j0
  simp [a_Device_go_on, fnA_d, aFld_e j0, hm, hr0, e]
theorem go_decide (h : C S f M N m (v.objs m d ++ L)) {r : Jr} {S' : Sto} (hr : r ∈ v.jobs) (hd : r.j.dec = false) (hw : ¬(r.j.wr = true ∧ r.j.moved < 4)) (e : a_Device_decide [.ref v.id, .ref r.id] S = .ok .non S') : a_Device_go_on [.ref v.id, .ref r.id] S = .ok .non S' := by
  obtain ⟨j0, _⟩ := job_at h hr
  have hr0 : aRecv "Device" "decide" (.ref v.id) S = .ok (.ref v.id) S := by rw [aRecv_e (hd_of h)]; simp [devF]
  cases hz : r.j.wr with
  | false =>
    simp only [jobF, Jb.ent, Jb.kind, hd, hz] at j0
    simp [a_Device_go_on, fnA_d, aFld_e j0, hr0, e]
  | true =>
    have hm : ¬ r.j.moved < 4 := fun z => hw ⟨hz, z⟩
    simp only [jobF, Jb.ent, Jb.kind, hd, hz] at j0
    simp [a_Device_go_on, fnA_d, aFld_e j0, hm, hr0, e]
theorem go_write (h : C S f M N m (v.objs m d ++ L)) {r : Jr} {S' : Sto} (hr : r ∈ v.jobs) (hd : r.j.dec = true) (hw : r.j.wr = false) (hm : r.j.moved < 4) (e : a_Device_write_cell [.ref v.id, .ref r.id] S = .ok .non S') : a_Device_go_on [.ref v.id, .ref r.id] S = .ok .non S' := by
  obtain ⟨j0, _⟩ := job_at h hr
  have hr0 : aRecv "Device" "write_cell" (.ref v.id) S = .ok (.ref v.id) S := by rw [aRecv_e (hd_of h)]; simp [devF]
  simp only [jobF, Jb.ent, Jb.kind, hd, hw] at j0
  simp [a_Device_go_on, fnA_d, aFld_e j0, hm, hr0, e]
theorem go_complete (h : C S f M N m (v.objs m d ++ L)) {r : Jr} {S' : Sto} (hr : r ∈ v.jobs) (hd : r.j.dec = true) (hw : ¬(r.j.wr = false ∧ r.j.moved < 4)) (e : a_Device_complete [.ref v.id, .ref r.id] S = .ok .non S') : a_Device_go_on [.ref v.id, .ref r.id] S = .ok .non S' := by
  obtain ⟨j0, _⟩ := job_at h hr
  have hr0 : aRecv "Device" "complete" (.ref v.id) S = .ok (.ref v.id) S := by rw [aRecv_e (hd_of h)]; simp [devF]
  cases hz : r.j.wr with
  | true =>
    simp only [jobF, Jb.ent, Jb.kind, hd, hz] at j0
    simp [a_Device_go_on, fnA_d, aFld_e j0, hr0, e]
  | false =>
    have hm : ¬ r.j.moved < 4 := fun z => hw ⟨hz, z⟩
    simp only [jobF, Jb.ent, Jb.kind, hd, hz] at j0
    simp [a_Device_go_on, fnA_d, aFld_e j0, hm, hr0, e]
/-- a pending request -/
theorem step_pend (h : C S f M N m (v.objs m d ++ L)) (hN : N < 900) {q : Rq} (hp : v.pend = [q.a]) (hm : may .dev d q) (c : Int) :
    ∃ (S' : Sto) (f' : MR → Nat) (v' : Dv), a_Device_step [.ref v.id, .int c] S = .ok (.bl true) S' ∧ C S' f' (acc M .dev d q) (N + 1) m (v'.objs m d ++ L) ∧ v' = { v with pd := v'.pd, pend := [] } := by
  have hd := hd_of h
  have hq := hp_of h
  rw [hp] at hq
  have k0 : C S f M N m ((v.id, .ins "Device" (devF v m d)) :: ((v.uw, .lst (v.jobs.map fun r => .ref r.id)) :: (v.pd, .lst v.pend) :: v.jobs.flatMap Jr.objs ++ L)) := h
  have k1 := (k0.new (.lst [])).swap
  have i1 := k1.has.hd
  have k2 := k1.set (.ins "Device" (devF { v with pd := S.length } m d))
  have k3 : C ((S ++ [AO.lst []]).set v.id (.ins "Device" (devF { v with pd := S.length } m d))) f M N m ({ v with pd := S.length, pend := [] }.objs m d ++ L) := by
    refine (k2.sub (List.Sublist.cons₂ _ (List.Sublist.cons₂ _ (?_ : List.Sublist ((v.uw, .lst (v.jobs.map fun r => .ref r.id)) :: v.jobs.flatMap Jr.objs ++ L) _)))).perm (List.Perm.cons _ (List.Perm.swap _ _ _))
    exact List.Sublist.cons₂ _ (List.sublist_cons_self _ _)
  obtain ⟨S2, f2, e, h2⟩ := dev_access (v := { v with pd := S.length, pend := [] }) k3 hN hm
  have hd3 := hd_of (v := { v with pd := S.length, pend := [] }) k3
  have hr : aRecv "Device" "access" (.ref v.id) ((S ++ [AO.lst []]).set v.id (.ins "Device" (devF { v with pd := S.length } m d))) = .ok (.ref v.id) ((S ++ [AO.lst []]).set v.id (.ins "Device" (devF { v with pd := S.length } m d))) := by
    rw [aRecv_e hd3]; simp [devF]
  refine ⟨S2, f2, { v with pd := S.length, pend := [] }, ?_, h2, rfl⟩
  have hc : cutA [q.a] (some 1) none = [] := by simp [cutA, HT.sIx]
  generalize eS1 : (S ++ [AO.lst []]).set v.id (.ins "Device" (devF { v with pd := S.length } m d)) = S1 at *
  simp only [devF] at i1 eS1
  generalize hqa : q.a = qa at *
  simp [a_Device_step, fnA_d, aFld_e hd, devF, aTru_l hq, aIx_l hq, aSl_l hq, hc, aSF_e i1, eS1, hr, e]
theorem filter_jobs (s : Int) (xs : List Jr) : (xs.filter fun q => !(q.j.seq == s)).map (·.j) = (xs.map (·.j)).filter fun q => !(q.seq == s) := by
  rw [List.filter_map]
  rfl
/-- the device's step -/
theorem dev_step (h : C S f M N m (v.objs m d ++ L)) (hv : v.is D) (hG : Good d D) (hF : MF M d) (hN : N < 900) (c : Int) :
    ∃ (q : Rq) (D' : Dd) (S' : Sto) (f' : MR → Nat) (v' : Dv), Stp d D c q (ex M d q).1 D' ∧ may .dev d q ∧ a_Device_step [.ref v.id, .int c] S = .ok (.bl true) S' ∧ C S' f' (acc M .dev d q) (N + 1) m (v'.objs m d ++ L) ∧ v'.id = v.id ∧ v'.is D' := by
  have hd01 := di_01 d
  obtain ⟨g0, g1, g2, g3, g4⟩ := id hv
  have lj : v.jobs.length = D.jobs.length := by rw [← g3, List.length_map]
  have l2 := hG.len
  have lv : v.jobs.length < 1000 := by omega
  by_cases hp : D.pend = []
  · have hp' : v.pend = [] := g4.trans hp
    by_cases hc : c % 4 = 0
    · obtain ⟨x, hx⟩ := hF.reset
      obtain ⟨S', f', v', e, hC, hi, hD⟩ := dev_reset h hv hN hx
      refine ⟨.rd (49 + 4 * di d), _, S', f', v', ?_, ⟨by omega, by omega, .inr ⟨rfl, by omega, by omega⟩⟩, step_reset h hp' hc e, hC, hi, hD⟩
      have : (ex M d (.rd (49 + 4 * di d))).1 = .int x := hx
      rw [this]
      exact .reset x hp hc
    · by_cases hj : D.jobs = [] ∨ c % 4 = 1 ∧ D.jobs.length < 2
      · have hj' : v.jobs = [] ∨ c % 4 = 1 ∧ v.jobs.length < 2 := by
          rcases hj with hj | hj
          · left
            rw [← List.length_eq_zero_iff, lj, hj]
            rfl
          · rw [lj]; exact .inr hj
        have h4a := Int.emod_nonneg D.taken (show (4 : Int) ≠ 0 by decide)
        have h4b := Int.emod_lt_of_pos D.taken (show (0 : Int) < 4 by decide)
        have hmay : may .dev d (.dr 0 (D.taken % 4)) := ⟨rfl, by omega, by omega, by omega, by omega⟩
        rcases hF.desc (D.taken % 4) h4a (by omega) with hx | hx | ⟨j, hx, a1, a2, a3, a4, a5, a6, a7⟩
        · obtain ⟨S', f', e, hC⟩ := dev_descr0 h hv hN (.inl hx)
          exact ⟨_, _, S', f', v, .descr0 _ hp hc hj (.inl hx), hmay, step_descr h (by omega) hp' hc hj' e, hC, rfl, hv⟩
        · obtain ⟨S', f', e, hC⟩ := dev_descr0 h hv hN (.inr ⟨.non, hx, fun S => by simp [a_is_new_descriptor, fnA_d]⟩)
          exact ⟨_, _, S', f', v, .descr0 _ hp hc hj (.inr (.inl hx)), hmay, step_descr h (by omega) hp' hc hj' e, hC, rfl, hv⟩
        · by_cases hn : j.ph = 1 - D.taken / 4 % 2 ∧ j.seq = D.taken
          · have ej : j.ent = (Jb.mk j.tag j.wr j.block (1 - D.taken / 4 % 2) D.taken [] 0 false).ent := by
              unfold Jb.ent Jb.kind
              rw [hn.1, hn.2]
            rw [ej] at hx
            obtain ⟨S', f', v', e, hC, hi, hD⟩ := dev_descr1 h hv hN lv hx fun S => by
              rw [new_descr_d S (Jb.mk j.tag j.wr j.block (1 - D.taken / 4 % 2) D.taken [] 0 false) D.taken a1 a2 a3 a4 (by show 0 ≤ D.taken; rw [← hn.2]; exact a5) (by show 0 ≤ 1 - D.taken / 4 % 2; omega) (by show 1 - D.taken / 4 % 2 ≤ 1; omega)]
              simp
            refine ⟨_, _, S', f', v', ?_, hmay, step_descr h (by omega) hp' hc hj' e, hC, hi, hD⟩
            rw [hx]
            exact .descr1 _ _ _ a1 a2 a3 a4 hp hc hj
          · obtain ⟨S', f', e, hC⟩ := dev_descr0 h hv hN (.inr ⟨_, hx, fun S => by rw [new_descr_d S j D.taken a1 a2 a3 a4 a5 a6 a7, decide_eq_false hn]⟩)
            exact ⟨_, _, S', f', v, .descr0 _ hp hc hj (.inr (.inr ⟨j, hx, hn⟩)), hmay, step_descr h (by omega) hp' hc hj' e, hC, rfl, hv⟩
      · have hj' : ¬(v.jobs = [] ∨ c % 4 = 1 ∧ v.jobs.length < 2) := fun z => by
          rcases z with z | z
          · exact hj (.inl (by rw [← List.length_eq_zero_iff, ← lj, z]; rfl))
          · exact hj (.inr (by rw [← lj]; exact z))
        have ne : v.jobs ≠ [] := fun z => hj' (.inl z)
        have lp : 0 < v.jobs.length := List.length_pos_iff.mpr ne
        have hi0 : 0 ≤ c / 4 % (v.jobs.length : Int) := Int.emod_nonneg _ (by omega)
        have hi1 : c / 4 % (v.jobs.length : Int) < v.jobs.length := Int.emod_lt_of_pos _ (by omega)
        obtain ⟨r, hr⟩ : ∃ r, v.jobs[(c / 4 % (v.jobs.length : Int)).toNat]? = some r := ⟨_, List.getElem?_eq_getElem (by omega)⟩
        have hx : atI v.jobs (c / 4 % v.jobs.length) = some r := by rw [atI_n hi0 hi1]; exact hr
        obtain ⟨X, Y, hs, hX⟩ : ∃ X Y, v.jobs = X ++ r :: Y ∧ X.length = (c / 4 % (v.jobs.length : Int)).toNat := by
          refine ⟨v.jobs.take (c / 4 % (v.jobs.length : Int)).toNat, v.jobs.drop ((c / 4 % (v.jobs.length : Int)).toNat + 1), ?_, by rw [List.length_take]; omega⟩
          have := List.getElem?_eq_some_iff.mp hr
          obtain ⟨hlt, he⟩ := this
          rw [← he, ← List.drop_eq_getElem_cons hlt, List.take_append_drop]
        have hmem : r ∈ v.jobs := by rw [hs]; simp
        have hDj : D.jobs = X.map (·.j) ++ r.j :: Y.map (·.j) := by rw [← g3, hs]; simp
        have pk : Pk D c (X.map (·.j)) r.j (Y.map (·.j)) := ⟨hp, hc, hj, hDj, by rw [List.length_map, hX, ← lj]; omega⟩
        have gj : GoodJ r.j := hG.jobs _ (by rw [hDj]; simp)
        have hV : v = { v with jobs := X ++ r :: Y } := by rw [← hs]
        have hC0 := h
        rw [hV] at hC0
        have drp : ∀ v' : Dv, v' = { v with uw := v'.uw, jobs := v.jobs.filter fun q => !(q.j.seq == r.j.seq) } → v'.id = v.id ∧ v'.is (dropJ D r.j.seq) := fun v' e => by
          refine ⟨by rw [e], ?_⟩
          rw [e]
          exact ⟨g0, g1, g2, by show (v.jobs.filter _).map (·.j) = _; rw [filter_jobs, g3]; rfl, g4⟩
        cases hdc : r.j.dec with
        | false =>
          cases hw : r.j.wr with
          | true =>
            by_cases hm : r.j.moved < 4
            · have hmay : may .dev d (.dr (2 + r.j.tag) r.j.moved) := ⟨rfl, by have := gj.t0; omega, by have := gj.t3; omega, gj.m0, by omega⟩
              rcases ex_dr M hF.vals d (2 + r.j.tag) r.j.moved gj.m0 (by omega) with hx2 | ⟨u, hx2, hu⟩
              · obtain ⟨S', f', v', e, hC, hv'⟩ := dev_read0 h hmem hN lv gj.t0 gj.t3 gj.m0 (by omega) hx2
                refine ⟨_, _, S', f', v', ?_, hmay, step_go h (by omega) hp' hc hj' hx (go_read h hmem hdc hw hm e), hC, drp v' hv'⟩
                rw [hx2]
                exact .read0 _ _ _ pk hdc hw hm
              · have hcl := (gj.w hw).1
                obtain ⟨S', f', e, hC⟩ := dev_read1 hC0 hN gj.t0 gj.t3 gj.m0 (by omega) (by omega) hx2
                refine ⟨_, { D with jobs := X.map (·.j) ++ { r.j with cells := r.j.cells ++ [u], moved := r.j.moved + 1 } :: Y.map (·.j) }, S', f', _, ?_, hmay, step_go h (by omega) hp' hc hj' hx (go_read h hmem hdc hw hm e), hC, rfl, g0, g1, g2, ?_, g4⟩
                · rw [hx2]
                  exact .read1 _ _ _ u pk hdc hw hm hu
                · simp
            · have hm4 : r.j.moved = 4 := by have := gj.m4; omega
              have hcl := (gj.w hw).1
              obtain ⟨a, b, c2, e0, hcs⟩ : ∃ a b c2 e0, r.j.cells = [a, b, c2, e0] := by
                have l4 : r.j.cells.length = 4 := by omega
                match hz : r.j.cells, l4 with
                | [a, b, c2, e0], _ => exact ⟨a, b, c2, e0, rfl⟩
              have hda : ∀ x ∈ [a, b, c2, e0], Da x := by rw [← hcs]; exact fun x hx => (gj.cd x hx).1
              obtain ⟨S', f', e, hC⟩ := dev_decideW hC0 hN hw gj.b0 gj.b7 g0 hcs hda
              have hmay : may .dev d (.commit r.j.block r.j.cells (.int D.gen) (.int r.j.seq)) := by
                rw [hcs]
                exact ⟨rfl, gj.b0, gj.b7, rfl, hda, Da.int _, Da.int _⟩
              rw [← hcs] at hC
              exact ⟨_, { D with jobs := X.map (·.j) ++ { r.j with dec := true } :: Y.map (·.j) }, S', f', _, .commit _ _ _ pk hdc hw hm, hmay, step_go h (by omega) hp' hc hj' hx (go_decide h hmem hdc (fun z => hm z.2) e), hC, rfl, g0, g1, g2, by simp, g4⟩
          | false =>
            have hmay : may .dev d (.fetch r.j.block (.int D.gen) (.int r.j.seq)) := ⟨rfl, gj.b0, gj.b7, Da.int _, Da.int _⟩
            have hbl := (h.wf.sd d).bl
            have hb0 := gj.b0
            have hb7 := gj.b7
            obtain ⟨cs, hcs, hl4, hcd⟩ : ∃ cs, (ex M d (.fetch r.j.block (.int D.gen) (.int r.j.seq))).1 = .tup cs ∧ cs.length = 4 ∧ ∀ u ∈ cs, V3 u := by
              have lt : r.j.block.toNat < (M.sd d).blocks.length := by omega
              have : (ex M d (.fetch r.j.block (.int D.gen) (.int r.j.seq))).1 = (M.sd d).blocks[r.j.block.toNat] := by
                show (M.sd d).blocks.getD _ _ = _
                rw [List.getD_eq_getElem?_getD, List.getElem?_eq_getElem lt]
                rfl
              rw [this]
              exact hF.blk _ (List.getElem_mem lt)
            obtain ⟨S', f', c', e, hC⟩ := dev_decideR hC0 hN hw gj.b0 gj.b7 g0 hcs
            refine ⟨_, { D with jobs := X.map (·.j) ++ { r.j with dec := true, cells := cs } :: Y.map (·.j) }, S', f', _, ?_, hmay, step_go h (by omega) hp' hc hj' hx (go_decide h hmem hdc (fun z => by rw [hw] at z; exact absurd z.1 (by decide)) e), hC, rfl, g0, g1, g2, ?_, g4⟩
            · rw [hcs]
              exact .fetch _ _ _ cs pk hdc hw hl4 hcd
            · simp
        | true =>
          by_cases hq : r.j.wr = false ∧ r.j.moved < 4
          · obtain ⟨hw, hm⟩ := hq
            have hl4 := gj.r1 hw hdc
            have hm0 := gj.m0
            obtain ⟨u, hu, hud⟩ : ∃ u, atI r.j.cells r.j.moved = some u ∧ V3 u := by
              have lt : r.j.moved.toNat < r.j.cells.length := by omega
              refine ⟨r.j.cells[r.j.moved.toNat], ?_, gj.cd _ (List.getElem_mem lt)⟩
              rw [atI_n gj.m0 (by omega), List.getElem?_eq_getElem lt]
            have hmay : may .dev d (.dw (2 + r.j.tag) r.j.moved u) := ⟨rfl, by have := gj.t0; omega, by have := gj.t3; omega, gj.m0, by omega, hud.1⟩
            rcases ex_dw M d (2 + r.j.tag) r.j.moved u with hx2 | hx2
            · obtain ⟨S', f', e, hC⟩ := dev_write1 hC0 hN gj.t0 gj.t3 gj.m0 (by omega) hu hud.1 hx2
              refine ⟨_, { D with jobs := X.map (·.j) ++ { r.j with moved := r.j.moved + 1 } :: Y.map (·.j) }, S', f', _, ?_, hmay, step_go h (by omega) hp' hc hj' hx (go_write h hmem hdc hw hm e), hC, rfl, g0, g1, g2, ?_, g4⟩
              · rw [hx2]
                exact .write1 _ _ _ u pk hdc hw hm hu
              · simp
            · obtain ⟨S', f', v', e, hC, hv'⟩ := dev_write0 h hmem hN lv gj.t0 gj.t3 gj.m0 (by omega) hu hud.1 hx2
              refine ⟨_, _, S', f', v', ?_, hmay, step_go h (by omega) hp' hc hj' hx (go_write h hmem hdc hw hm e), hC, drp v' hv'⟩
              rw [hx2]
              exact .write0 _ _ _ u pk hdc hw hm hu
          · have hmay : may .dev d (.dw 1 (D.done % 4) (doneE r.j D.done)) := ⟨rfl, by omega, by omega, Int.emod_nonneg _ (by decide), by have := Int.emod_lt_of_pos D.done (show (0 : Int) < 4 by decide); omega, by simp [doneE, Da, A.dat', A.dats']⟩
            have hdn : 0 ≤ v.done := by rw [g2]; exact hG.dn
            rcases ex_dw M d 1 (D.done % 4) (doneE r.j D.done) with hx2 | hx2
            · obtain ⟨S', f', v', e, hC, hv'⟩ := dev_complete1 h hmem hN lv gj.t0 gj.t3 hdn (by rw [g2]; exact hx2)
              rw [g2] at hC
              refine ⟨_, { dropJ D r.j.seq with done := D.done + 1, pend := [.tup [.str "write", .int (51 + 4 * di d), .int 1]] }, S', f', v', ?_, hmay, step_go h (by omega) hp' hc hj' hx (go_complete h hmem hdc hq e), hC, by rw [hv'], ?_⟩
              · rw [hx2]
                exact .comp1 _ _ _ pk hdc hq
              · rw [hv']
                exact ⟨g0, g1, by show v.done + 1 = D.done + 1; rw [g2], by show (v.jobs.filter _).map (·.j) = _; rw [filter_jobs, g3]; rfl, rfl⟩
            · obtain ⟨S', f', v', e, hC, hv'⟩ := dev_complete0 h hmem hN lv gj.t0 gj.t3 hdn (by rw [g2]; exact hx2)
              rw [g2] at hC
              refine ⟨_, _, S', f', v', ?_, hmay, step_go h (by omega) hp' hc hj' hx (go_complete h hmem hdc hq e), hC, drp v' hv'⟩
              rw [hx2]
              exact .comp0 _ _ _ pk hdc hq
  · obtain ⟨k, x, e, k0, k1⟩ := hG.pend.resolve_left hp
    have hm : may .dev d (.wr k (.int x)) := ⟨by omega, by omega, .inr ⟨rfl, by omega, by omega⟩, Da.int _⟩
    obtain ⟨S', f', v', e2, hC, hv'⟩ := step_pend h hN (g4.trans e) hm c
    refine ⟨_, _, S', f', v', .pend _ _ e, hm, e2, hC, by rw [hv'], ?_⟩
    rw [hv']
    exact ⟨g0, g1, g2, g3, rfl⟩
end
end RaM
/-! RaDev6: a step keeps the record good; the first device. -/
namespace RaM
open RA RaP L2
section
variable {S : Sto} {f : MR → Nat} {M : Mem} {N m : Nat} {L : List (Nat × AO)} {v : Dv} {d : Bool} {D D' : Dd}
theorem Good.drop (h : Good d D) (s : Int) : Good d (dropJ D s) :=
  ⟨Nat.le_trans (List.length_filter_le _ _) h.len, fun j hj => h.jobs j (List.mem_filter.mp hj).1, (List.filter_sublist.map _).nodup h.nd, fun j hj => h.lt j (List.mem_filter.mp hj).1, h.tk, h.dn, h.pend⟩
theorem Good.put {X Y : List Jb} {j j' : Jb} (h : Good d D) (e : D.jobs = X ++ j :: Y) (hs : j'.seq = j.seq) (hj : GoodJ j') : Good d { D with jobs := X ++ j' :: Y } := by
  refine ⟨?_, fun k hk => ?_, ?_, fun k hk => ?_, h.tk, h.dn, h.pend⟩
  · have := h.len
    rw [e] at this
    simpa using this
  · simp only [List.mem_append, List.mem_cons] at hk
    rcases hk with hk | rfl | hk
    · exact h.jobs k (by rw [e]; simp [hk])
    · exact hj
    · exact h.jobs k (by rw [e]; simp [hk])
  · have := h.nd
    rw [e] at this
    simpa [hs] using this
  · simp only [List.mem_append, List.mem_cons] at hk
    rcases hk with hk | rfl | hk
    · exact h.lt k (by rw [e]; simp [hk])
    · have := h.lt j (by rw [e]; simp)
      show k.seq < D.taken
      omega
    · exact h.lt k (by rw [e]; simp [hk])
theorem stp_good {c : Int} {q : Rq} {res : A} (h : Good d D) (hs : Stp d D c q res D') : Good d D' := by
  cases hs with
  | pend res hp => exact ⟨h.len, h.jobs, h.nd, h.lt, h.tk, h.dn, .inl rfl⟩
  | reset x hp hc =>
    unfold dreset
    split
    · exact h
    · exact ⟨by simp, fun j hj => (by cases hj), List.nodup_nil, (fun j hj => by cases hj), Int.le_refl 0, Int.le_refl 0, .inr ⟨50 + 4 * di d, x, rfl, by omega, by omega⟩⟩
  | descr0 res hp hc hj hr => exact h
  | descr1 tag block wr t0 t3 b0 b7 hp hc hj =>
    have tk := h.tk
    refine ⟨?_, fun j hj => ?_, ?_, fun j hj => ?_, by show 0 ≤ D.taken + 1; omega, h.dn, h.pend⟩
    · rcases hj with hj | hj
      · rw [hj]; simp
      · rw [List.length_append]; simp only [List.length_cons, List.length_nil]; omega
    · simp only [List.mem_append, List.mem_singleton] at hj
      rcases hj with hj | rfl
      · exact h.jobs j hj
      · exact ⟨t0, t3, b0, b7, tk, Int.le_refl 0, by simp, fun x hx => (by cases hx), fun _ => ⟨rfl, fun z => (by cases z)⟩, fun _ _ => rfl, fun _ z => (by cases z)⟩
    · rw [List.map_append, List.nodup_append]
      refine ⟨h.nd, by simp, fun a ha b hb => ?_⟩
      obtain ⟨j, hj, rfl⟩ := List.mem_map.mp ha
      simp only [List.map_cons, List.map_nil, List.mem_singleton] at hb
      have := h.lt j hj
      omega
    · simp only [List.mem_append, List.mem_singleton] at hj
      show j.seq < D.taken + 1
      rcases hj with hj | rfl
      · have := h.lt j hj
        omega
      · show D.taken < D.taken + 1
        omega
  | read1 X j Y u pk hd hw hm hu =>
    have g := h.jobs j (by rw [pk.2.2.2.1]; simp)
    have m0 := g.m0
    have l := (g.w hw).1
    refine h.put pk.2.2.2.1 rfl ⟨g.t0, g.t3, g.b0, g.b7, g.s0, by show 0 ≤ j.moved + 1; omega, by show j.moved + 1 ≤ 4; omega, fun x hx => ?_, fun _ => ⟨(by show ((j.cells ++ [u]).length : Int) = j.moved + 1; rw [List.length_append]; simp only [List.length_cons, List.length_nil]; omega), fun z => (by rw [hd] at z; cases z)⟩, fun z => (by rw [hw] at z; cases z), fun z => (by rw [hw] at z; cases z)⟩
    simp only [List.mem_append, List.mem_singleton] at hx
    rcases hx with hx | rfl
    · exact g.cd x hx
    · exact hu
  | read0 X j Y pk hd hw hm => exact h.drop _
  | commit X j Y pk hd hw hm =>
    have g := h.jobs j (by rw [pk.2.2.2.1]; simp)
    have m4 := g.m4
    exact h.put pk.2.2.2.1 rfl ⟨g.t0, g.t3, g.b0, g.b7, g.s0, g.m0, g.m4, g.cd, fun z => ⟨(g.w hw).1, fun _ => by show j.moved = 4; omega⟩, fun z => (by rw [hw] at z; cases z), fun z => (by rw [hw] at z; cases z)⟩
  | fetch X j Y cs pk hd hw h4 hcs =>
    have g := h.jobs j (by rw [pk.2.2.2.1]; simp)
    exact h.put pk.2.2.2.1 rfl ⟨g.t0, g.t3, g.b0, g.b7, g.s0, g.m0, g.m4, hcs, fun z => (by rw [hw] at z; cases z), fun _ z => (by cases z), fun _ _ => h4⟩
  | write1 X j Y u pk hd hw hm hu =>
    have g := h.jobs j (by rw [pk.2.2.2.1]; simp)
    have m0 := g.m0
    exact h.put pk.2.2.2.1 rfl ⟨g.t0, g.t3, g.b0, g.b7, g.s0, by show 0 ≤ j.moved + 1; omega, by show j.moved + 1 ≤ 4; omega, g.cd, fun z => (by rw [hw] at z; cases z), fun _ z => (by rw [hd] at z; cases z), g.r1⟩
  | write0 X j Y u pk hd hw hm hu => exact h.drop _
  | comp1 X j Y pk hd hm =>
    have g := h.drop j.seq
    have := h.dn
    exact ⟨g.len, g.jobs, g.nd, g.lt, g.tk, by show 0 ≤ D.done + 1; omega, .inr ⟨51 + 4 * di d, 1, rfl, by omega, by omega⟩⟩
  | comp0 X j Y pk hd hm => exact h.drop _
/-- the first device -/
def dd0 : Dd := { gen := 0, taken := 0, done := 0, jobs := [], pend := [] }
theorem good0 (d : Bool) : Good d dd0 := ⟨by simp [dd0], fun j hj => (by cases hj), List.nodup_nil, (fun j hj => by cases hj), Int.le_refl 0, Int.le_refl 0, .inl rfl⟩
theorem dev_new (S : Sto) (m : Nat) (d : Bool) : aMake "Device" a_Device_init [.ref m, .int (di d)] S = .ok (.ref S.length) (S ++ [.ins "Device" (devF ⟨S.length, S.length + 1, S.length + 2, .int 0, 0, 0, [], []⟩ m d), .lst [], .lst []]) := by
  simp [aMake_d, a_Device_init, fnA_d, aSFN, at_app0, at_app, set_app0, set_app, devF]
end
end RaM
/-! RaP19: the law's own device. -/
namespace Ra19P
open RA RaP RaM L2
open PySem (PyData)
open Ra19 (a_law a_law_driver a_law_begin a_law_next a_law_describe a_law_wish a_law_taken a_law_moved a_law_behind)
theorem next_eq : a_law_next = nextF := rfl
section
variable {S : Sto} {n : Nat} {xs : List A}
theorem aNe_lists {m : Nat} {ys : List A} (h : S[n]? = some (.lst xs)) (h2 : S[m]? = some (.lst ys)) (hy : ys = []) : aNeE (.ref n) (.ref m) S = .ok (.bl (!xs.isEmpty)) S := by
  subst hy
  unfold aNeE lensNe
  simp only [h, h2]
  cases xs with
  | nil => 
    have t1 := toD_lst h (ds := []) rfl
    have t2 := toD_lst h2 (ds := []) rfl
    simp [aNe, aEqB, t1, t2, PyData.depth, PyData.depthAll, PyData.eqv, PyData.eqvAll]
  | cons a r => simp
theorem aEq_lists {m : Nat} {ys : List A} (h : S[n]? = some (.lst xs)) (h2 : S[m]? = some (.lst ys)) (hy : ys = []) : aEqE (.ref n) (.ref m) S = .ok (.bl xs.isEmpty) S := by
  subst hy
  unfold aEqE lensNe
  simp only [h, h2]
  cases xs with
  | nil => 
    have t1 := toD_lst h (ds := []) rfl
    have t2 := toD_lst h2 (ds := []) rfl
    simp [aEq, aEqB, t1, t2, PyData.depth, PyData.depthAll, PyData.eqv, PyData.eqvAll]
  | cons a r => simp
@[simp] theorem aEq_ti (a b : String) (i j : Int) : aEq (.tup [.str a, .int i]) (.tup [.str b, .int j]) S = .ok (.bl (decide (a = b) && i == j)) S := by
  have : (PySem.Str.ofString a == PySem.Str.ofString b) = decide (a = b) := by
    by_cases h : a = b
    · subst h; simp
    · rw [decide_eq_false h]
      exact beq_eq_false_iff_ne.mpr fun z => h (str_inj z)
  simp [aEq, aEqB, toD, A.dat, A.dats, PyData.depth, PyData.depthAll, PyData.eqv, PyData.eqvAll, this]
end
/-! ### the law's own record -/
def ojF (c : Nat) (j : Jb) : List (AK × A) := [(.inr "entry", j.ent), (.inr "decided", .bl j.dec), (.inr "moved", .int j.moved), (.inr "cells", .ref c)]
def wj (r : Jr) : List (Nat × AO) := [(r.id, .dK false (ojF r.cid r.j)), (r.cid, .lst r.j.cells)]
def owF (o : Dv) : List (AK × A) := [(.inr "generation", o.gen), (.inr "taken", .int o.taken), (.inr "done", .int o.done), (.inr "jobs", .ref o.uw), (.inr "pending", .ref o.pd)]
def wo (o : Dv) : List (Nat × AO) := (o.id, .dK false (owF o)) :: (o.uw, .lst (o.jobs.map fun r => .ref r.id)) :: (o.pd, .lst o.pend) :: o.jobs.flatMap wj
section
variable {S : Sto} {f : MR → Nat} {M : Mem} {N m : Nat} {L : List (Nat × AO)} {o : Dv} {D D' : Dd} {q : Rq} {res : A} {c : Int}
theorem o_at (h : C S f M N m (wo o ++ L)) : S[o.id]? = some (.dK false (owF o)) := h.has.at_ (o.id, .dK false (owF o)) (by simp [wo])
theorem j_at (h : C S f M N m (wo o ++ L)) : S[o.uw]? = some (.lst (o.jobs.map fun r => .ref r.id)) := h.has.at_ (o.uw, .lst (o.jobs.map fun r => .ref r.id)) (by simp [wo])
theorem p_at (h : C S f M N m (wo o ++ L)) : S[o.pd]? = some (.lst o.pend) := h.has.at_ (o.pd, .lst o.pend) (by simp [wo])
theorem wj_at (h : C S f M N m (wo o ++ L)) {r : Jr} (hr : r ∈ o.jobs) : S[r.id]? = some (.dK false (ojF r.cid r.j)) ∧ S[r.cid]? = some (.lst r.j.cells) := by
  have a : ∀ p ∈ wj r, S[p.1]? = some p.2 := fun p hp => h.has.at_ p (List.mem_append_left _ (List.mem_cons_of_mem _ (List.mem_cons_of_mem _ (List.mem_cons_of_mem _ (List.mem_flatMap.mpr ⟨r, hr, hp⟩)))))
  exact ⟨a (r.id, _) (by simp [wj]), a (r.cid, _) (by simp [wj])⟩
@[simp] theorem reset_d (S : Sto) : a_reset [.int 0] S = .ok (.int 49) S := by simp [a_reset, fnA_d]
@[simp] theorem ready_d (S : Sto) : a_ready [.int 0] S = .ok (.int 50) S := by simp [a_ready, fnA_d]
@[simp] theorem interrupt_d (S : Sto) : a_interrupt [.int 0] S = .ok (.int 51) S := by simp [a_interrupt, fnA_d]
/-- the picked job on the law's side -/
theorem pk_own {X : List Jb} {j : Jb} {Y : List Jb} (ho : o.is D) (pk : Pk D c X j Y) : ∃ (X' : List Jr) (r : Jr) (Y' : List Jr), o.jobs = X' ++ r :: Y' ∧ X'.map (·.j) = X ∧ r.j = j ∧ Y'.map (·.j) = Y ∧ 0 < o.jobs.length ∧ o.pend = [] ∧
    ((o.jobs.map fun r => A.ref r.id).isEmpty = false) ∧ atI (o.jobs.map fun r => A.ref r.id) (c / 4 % (o.jobs.length : Int)) = some (.ref r.id) ∧ (c % 4 = 1 → ¬ ((o.jobs.length : Int) < 2)) := by
  obtain ⟨g0, g1, g2, g3, g4⟩ := ho
  obtain ⟨p1, p2, p3, p4, p5⟩ := pk
  have lj : o.jobs.length = D.jobs.length := by rw [← g3, List.length_map]
  rw [p4] at g3
  obtain ⟨X', Z, e1, e2, e3⟩ := List.map_eq_append_iff.mp g3
  obtain ⟨r, Y', e4, e5, e6⟩ := List.map_eq_cons_iff.mp e3
  subst e4
  have hl : 0 < o.jobs.length := by rw [e1, List.length_append, List.length_cons]; omega
  refine ⟨X', r, Y', e1, e2, e5, e6, hl, g4.trans p1, ?_, ?_, fun z y => p3 (.inr ⟨z, by omega⟩)⟩
  · rw [e1]; simp
  · rw [lj, ← p5, ← e2, List.length_map, e1]
    rw [atI_n (by omega) (by simp only [List.length_map, List.length_append, List.length_cons]; omega), List.getElem?_map]
    simp
theorem wish_d (h : C S f M N m (wo o ++ L)) (ho : o.is D) (hG : Good false D) (hs : Stp false D c q res D') : ∃ T, a_law_wish [.ref o.id, .int c] S = .ok q.a (S ++ T) := by
  obtain ⟨g0, g1, g2, g3, g4⟩ := id ho
  have lj : o.jobs.length = D.jobs.length := by rw [← g3, List.length_map]
  have a0 := o_at h
  have b0 := p_at h
  have ex : ∀ {k : Nat} {x : AO} (T : Sto), S[k]? = some x → (S ++ T)[k]? = some x := fun {k x} T e => by rw [List.getElem?_append_left (List.getElem?_eq_some_iff.mp e).1]; exact e
  have nw : (S ++ [AO.lst []])[S.length]? = some (AO.lst []) := by simp
  have nw2 : (S ++ [AO.lst [], AO.lst []])[S.length + 1]? = some (AO.lst []) := by simp
  have a1 := ex [AO.lst []] a0
  have a2 := ex [AO.lst [], AO.lst []] a0
  have b1 := ex [AO.lst []] b0
  have c1 := ex [AO.lst []] (j_at h)
  have c2 := ex [AO.lst [], AO.lst []] (j_at h)
  have n1 := aNe_lists b1 nw rfl
  have n2 := aEq_lists c2 nw2 rfl
  have z1 := bLen_l c2
  simp only [List.length_map] at z1
  have job : ∀ {r : Jr}, r ∈ o.jobs → (S ++ [AO.lst [], AO.lst []])[r.id]? = some (.dK false (ojF r.cid r.j)) ∧ (S ++ [AO.lst [], AO.lst []])[r.cid]? = some (.lst r.j.cells) := fun {r} hr => ⟨ex _ (wj_at h hr).1, ex _ (wj_at h hr).2⟩
  simp only [owF] at a0 a1 a2
  cases hs with
  | pend q res hp =>
    rw [← g4] at hp
    rw [hp] at b1 n1
    refine ⟨[.lst []], ?_⟩
    generalize hqa : q.a = qa at *
    simp [a_law_wish, fnA_d, aGet_s a0, aGet_s a1, alk, n1, aIx_l b1]
  | reset x hp hc =>
    rw [← g4] at hp
    rw [hp] at n1
    refine ⟨[.lst []], ?_⟩
    simp [a_law_wish, fnA_d, aGet_s a0, aGet_s a1, alk, n1, hc, Rq.l, di]
  | descr0 res hp hc hj hr =>
    rw [← g4] at hp
    rw [hp] at n1
    refine ⟨[.lst [], .lst []], ?_⟩
    rcases hj with hj | ⟨h1, h2⟩
    · have : o.jobs = [] := by rw [← List.length_eq_zero_iff, lj, hj]; rfl
      rw [this] at n2
      simp [a_law_wish, fnA_d, aGet_s a0, aGet_s a1, aGet_s a2, alk, n1, n2, hc, Rq.l, g1]
    · rw [← lj] at h2
      have h2 : (o.jobs.length : Int) < 2 := by omega
      by_cases hz : o.jobs = []
      · rw [hz] at n2
        simp [a_law_wish, fnA_d, aGet_s a0, aGet_s a1, aGet_s a2, alk, n1, n2, hc, Rq.l, g1]
      · simp [a_law_wish, fnA_d, aGet_s a0, aGet_s a1, aGet_s a2, alk, n1, n2, hc, Rq.l, g1, h1, z1, h2, hz]
  | descr1 tag block wr t0 t3 b0' b7 hp hc hj =>
    rw [← g4] at hp
    rw [hp] at n1
    refine ⟨[.lst [], .lst []], ?_⟩
    rcases hj with hj | ⟨h1, h2⟩
    · have : o.jobs = [] := by rw [← List.length_eq_zero_iff, lj, hj]; rfl
      rw [this] at n2
      simp [a_law_wish, fnA_d, aGet_s a0, aGet_s a1, aGet_s a2, alk, n1, n2, hc, Rq.l, g1]
    · rw [← lj] at h2
      have h2 : (o.jobs.length : Int) < 2 := by omega
      by_cases hz : o.jobs = []
      · rw [hz] at n2
        simp [a_law_wish, fnA_d, aGet_s a0, aGet_s a1, aGet_s a2, alk, n1, n2, hc, Rq.l, g1]
      · simp [a_law_wish, fnA_d, aGet_s a0, aGet_s a1, aGet_s a2, alk, n1, n2, hc, Rq.l, g1, h1, z1, h2, hz]
  | read1 X j Y u pk hd hw hm hu =>
    obtain ⟨X', r, Y', e1, e2, rfl, e4, e5, e6, e7, e8, e9⟩ := pk_own ho pk
    rw [e6] at n1
    rw [e7] at n2
    obtain ⟨k1, k2⟩ := job (r := r) (by rw [e1]; simp)
    simp only [ojF, Jb.ent, Jb.kind, hd, hw] at k1
    refine ⟨[.lst [], .lst []], ?_⟩
    have p2 := pk.2.1
    by_cases h1 : c % 4 = 1
    · have e10 := e9 h1
      simp [a_law_wish, fnA_d, aGet_s a0, aGet_s a1, aGet_s a2, alk, n1, n2, Rq.l, z1, e7, e5, aIx_l c2, e8, aGet_s k1, g0, g2, di, doneE, h1, e10, hm]
    · simp [a_law_wish, fnA_d, aGet_s a0, aGet_s a1, aGet_s a2, alk, n1, n2, Rq.l, z1, e7, e5, aIx_l c2, e8, aGet_s k1, g0, g2, di, doneE, h1, p2, hm]
  | read0 X j Y pk hd hw hm =>
    obtain ⟨X', r, Y', e1, e2, rfl, e4, e5, e6, e7, e8, e9⟩ := pk_own ho pk
    rw [e6] at n1
    rw [e7] at n2
    obtain ⟨k1, k2⟩ := job (r := r) (by rw [e1]; simp)
    simp only [ojF, Jb.ent, Jb.kind, hd, hw] at k1
    refine ⟨[.lst [], .lst []], ?_⟩
    have p2 := pk.2.1
    by_cases h1 : c % 4 = 1
    · have e10 := e9 h1
      simp [a_law_wish, fnA_d, aGet_s a0, aGet_s a1, aGet_s a2, alk, n1, n2, Rq.l, z1, e7, e5, aIx_l c2, e8, aGet_s k1, g0, g2, di, doneE, h1, e10, hm]
    · simp [a_law_wish, fnA_d, aGet_s a0, aGet_s a1, aGet_s a2, alk, n1, n2, Rq.l, z1, e7, e5, aIx_l c2, e8, aGet_s k1, g0, g2, di, doneE, h1, p2, hm]
  | commit X j Y pk hd hw hm =>
    obtain ⟨X', r, Y', e1, e2, rfl, e4, e5, e6, e7, e8, e9⟩ := pk_own ho pk
    rw [e6] at n1
    rw [e7] at n2
    obtain ⟨k1, k2⟩ := job (r := r) (by rw [e1]; simp)
    simp only [ojF, Jb.ent, Jb.kind, hd, hw] at k1
    refine ⟨[.lst [], .lst []], ?_⟩
    have p2 := pk.2.1
    by_cases h1 : c % 4 = 1
    · have e10 := e9 h1
      simp [a_law_wish, fnA_d, aGet_s a0, aGet_s a1, aGet_s a2, alk, n1, n2, Rq.l, z1, e7, e5, aIx_l c2, e8, aGet_s k1, g0, g2, di, doneE, h1, e10, hm, bTuple_l k2]
    · simp [a_law_wish, fnA_d, aGet_s a0, aGet_s a1, aGet_s a2, alk, n1, n2, Rq.l, z1, e7, e5, aIx_l c2, e8, aGet_s k1, g0, g2, di, doneE, h1, p2, hm, bTuple_l k2]
  | fetch X j Y cs pk hd hw h4 hcs =>
    obtain ⟨X', r, Y', e1, e2, rfl, e4, e5, e6, e7, e8, e9⟩ := pk_own ho pk
    rw [e6] at n1
    rw [e7] at n2
    obtain ⟨k1, k2⟩ := job (r := r) (by rw [e1]; simp)
    simp only [ojF, Jb.ent, Jb.kind, hd, hw] at k1
    refine ⟨[.lst [], .lst []], ?_⟩
    have p2 := pk.2.1
    by_cases h1 : c % 4 = 1
    · have e10 := e9 h1
      simp [a_law_wish, fnA_d, aGet_s a0, aGet_s a1, aGet_s a2, alk, n1, n2, Rq.l, z1, e7, e5, aIx_l c2, e8, aGet_s k1, g0, g2, di, doneE, h1, e10]
    · simp [a_law_wish, fnA_d, aGet_s a0, aGet_s a1, aGet_s a2, alk, n1, n2, Rq.l, z1, e7, e5, aIx_l c2, e8, aGet_s k1, g0, g2, di, doneE, h1, p2]
  | write1 X j Y u pk hd hw hm hu =>
    obtain ⟨X', r, Y', e1, e2, rfl, e4, e5, e6, e7, e8, e9⟩ := pk_own ho pk
    rw [e6] at n1
    rw [e7] at n2
    obtain ⟨k1, k2⟩ := job (r := r) (by rw [e1]; simp)
    simp only [ojF, Jb.ent, Jb.kind, hd, hw] at k1
    refine ⟨[.lst [], .lst []], ?_⟩
    have p2 := pk.2.1
    by_cases h1 : c % 4 = 1
    · have e10 := e9 h1
      simp [a_law_wish, fnA_d, aGet_s a0, aGet_s a1, aGet_s a2, alk, n1, n2, Rq.l, z1, e7, e5, aIx_l c2, e8, aGet_s k1, g0, g2, di, doneE, h1, e10, hm, aIx_l k2, hu]
    · simp [a_law_wish, fnA_d, aGet_s a0, aGet_s a1, aGet_s a2, alk, n1, n2, Rq.l, z1, e7, e5, aIx_l c2, e8, aGet_s k1, g0, g2, di, doneE, h1, p2, hm, aIx_l k2, hu]
  | write0 X j Y u pk hd hw hm hu =>
    obtain ⟨X', r, Y', e1, e2, rfl, e4, e5, e6, e7, e8, e9⟩ := pk_own ho pk
    rw [e6] at n1
    rw [e7] at n2
    obtain ⟨k1, k2⟩ := job (r := r) (by rw [e1]; simp)
    simp only [ojF, Jb.ent, Jb.kind, hd, hw] at k1
    refine ⟨[.lst [], .lst []], ?_⟩
    have p2 := pk.2.1
    by_cases h1 : c % 4 = 1
    · have e10 := e9 h1
      simp [a_law_wish, fnA_d, aGet_s a0, aGet_s a1, aGet_s a2, alk, n1, n2, Rq.l, z1, e7, e5, aIx_l c2, e8, aGet_s k1, g0, g2, di, doneE, h1, e10, hm, aIx_l k2, hu]
    · simp [a_law_wish, fnA_d, aGet_s a0, aGet_s a1, aGet_s a2, alk, n1, n2, Rq.l, z1, e7, e5, aIx_l c2, e8, aGet_s k1, g0, g2, di, doneE, h1, p2, hm, aIx_l k2, hu]
  | comp1 X j Y pk hd hm =>
    obtain ⟨X', r, Y', e1, e2, rfl, e4, e5, e6, e7, e8, e9⟩ := pk_own ho pk
    rw [e6] at n1
    rw [e7] at n2
    obtain ⟨k1, k2⟩ := job (r := r) (by rw [e1]; simp)
    refine ⟨[.lst [], .lst []], ?_⟩
    have p2 := pk.2.1
    cases hw : r.j.wr with
    | true =>
      simp only [ojF, Jb.ent, Jb.kind, hd, hw] at k1
      by_cases h1 : c % 4 = 1
      · have e10 := e9 h1
        simp [a_law_wish, fnA_d, aGet_s a0, aGet_s a1, aGet_s a2, alk, n1, n2, Rq.l, z1, e7, e5, aIx_l c2, e8, aGet_s k1, g0, g2, di, doneE, h1, e10]
      · simp [a_law_wish, fnA_d, aGet_s a0, aGet_s a1, aGet_s a2, alk, n1, n2, Rq.l, z1, e7, e5, aIx_l c2, e8, aGet_s k1, g0, g2, di, doneE, h1, p2]
    | false =>
      have hm2 : ¬ r.j.moved < 4 := fun z => hm ⟨hw, z⟩
      simp only [ojF, Jb.ent, Jb.kind, hd, hw] at k1
      by_cases h1 : c % 4 = 1
      · have e10 := e9 h1
        simp [a_law_wish, fnA_d, aGet_s a0, aGet_s a1, aGet_s a2, alk, n1, n2, Rq.l, z1, e7, e5, aIx_l c2, e8, aGet_s k1, g0, g2, di, doneE, h1, e10, hm2]
      · simp [a_law_wish, fnA_d, aGet_s a0, aGet_s a1, aGet_s a2, alk, n1, n2, Rq.l, z1, e7, e5, aIx_l c2, e8, aGet_s k1, g0, g2, di, doneE, h1, p2, hm2]
  | comp0 X j Y pk hd hm =>
    obtain ⟨X', r, Y', e1, e2, rfl, e4, e5, e6, e7, e8, e9⟩ := pk_own ho pk
    rw [e6] at n1
    rw [e7] at n2
    obtain ⟨k1, k2⟩ := job (r := r) (by rw [e1]; simp)
    refine ⟨[.lst [], .lst []], ?_⟩
    have p2 := pk.2.1
    cases hw : r.j.wr with
    | true =>
      simp only [ojF, Jb.ent, Jb.kind, hd, hw] at k1
      by_cases h1 : c % 4 = 1
      · have e10 := e9 h1
        simp [a_law_wish, fnA_d, aGet_s a0, aGet_s a1, aGet_s a2, alk, n1, n2, Rq.l, z1, e7, e5, aIx_l c2, e8, aGet_s k1, g0, g2, di, doneE, h1, e10]
      · simp [a_law_wish, fnA_d, aGet_s a0, aGet_s a1, aGet_s a2, alk, n1, n2, Rq.l, z1, e7, e5, aIx_l c2, e8, aGet_s k1, g0, g2, di, doneE, h1, p2]
    | false =>
      have hm2 : ¬ r.j.moved < 4 := fun z => hm ⟨hw, z⟩
      simp only [ojF, Jb.ent, Jb.kind, hd, hw] at k1
      by_cases h1 : c % 4 = 1
      · have e10 := e9 h1
        simp [a_law_wish, fnA_d, aGet_s a0, aGet_s a1, aGet_s a2, alk, n1, n2, Rq.l, z1, e7, e5, aIx_l c2, e8, aGet_s k1, g0, g2, di, doneE, h1, e10, hm2]
      · simp [a_law_wish, fnA_d, aGet_s a0, aGet_s a1, aGet_s a2, alk, n1, n2, Rq.l, z1, e7, e5, aIx_l c2, e8, aGet_s k1, g0, g2, di, doneE, h1, p2, hm2]
end
end Ra19P
/-! RaQ19: the law's own device, behind a step. -/
namespace Ra19P
open RA RaP RaM L2
open PySem (PyData)
open Ra19 (a_law a_law_driver a_law_begin a_law_next a_law_describe a_law_wish a_law_taken a_law_moved a_law_behind)
section
variable {S : Sto} {f : MR → Nat} {M : Mem} {N m : Nat} {L : List (Nat × AO)} {o : Dv} {D D' : Dd} {q : Rq} {res : A} {c : Int}
theorem own_set (h : C S f M N m (wo o ++ L)) (o' : Dv) (h1 : o'.id = o.id) (h2 : o'.uw = o.uw) (h3 : o'.pd = o.pd) (h4 : o'.jobs = o.jobs) (h5 : o'.pend = o.pend) : C (S.set o.id (.dK false (owF o'))) f M N m (wo o' ++ L) := by
  have k0 : C S f M N m ((o.id, .dK false (owF o)) :: ((o.uw, .lst (o.jobs.map fun r => .ref r.id)) :: (o.pd, .lst o.pend) :: o.jobs.flatMap wj ++ L)) := h
  have k1 := k0.set (.dK false (owF o'))
  unfold wo
  rw [h1, h2, h3, h4, h5]
  exact k1
theorem own_pd (h : C S f M N m (wo o ++ L)) (xs : List A) : C ((S ++ [AO.lst xs]).set o.id (.dK false (owF { o with pd := S.length }))) f M N m (wo { o with pd := S.length, pend := xs } ++ L) := by
  have k0 : C S f M N m ((o.id, .dK false (owF o)) :: ((o.uw, .lst (o.jobs.map fun r => .ref r.id)) :: (o.pd, .lst o.pend) :: o.jobs.flatMap wj ++ L)) := h
  have k2 := (k0.new (AO.lst xs)).swap.set (.dK false (owF { o with pd := S.length }))
  refine (k2.sub (List.Sublist.cons₂ _ (List.Sublist.cons₂ _ (?_ : List.Sublist ((o.uw, AO.lst (o.jobs.map fun r => .ref r.id)) :: o.jobs.flatMap wj ++ L) _)))).perm (List.Perm.cons _ (List.Perm.swap _ _ _))
  exact List.Sublist.cons₂ _ (List.sublist_cons_self _ _)
theorem own_uw (h : C S f M N m (wo o ++ L)) (J : List Jr) (hJ : (J.flatMap wj).Sublist (o.jobs.flatMap wj)) : C ((S ++ [AO.lst (J.map fun r => .ref r.id)]).set o.id (.dK false (owF { o with uw := S.length }))) f M N m (wo { o with uw := S.length, jobs := J } ++ L) := by
  have k0 : C S f M N m ((o.id, .dK false (owF o)) :: ((o.uw, .lst (o.jobs.map fun r => .ref r.id)) :: (o.pd, .lst o.pend) :: o.jobs.flatMap wj ++ L)) := h
  have k2 := (k0.new (AO.lst (J.map fun r => .ref r.id))).swap.set (.dK false (owF { o with uw := S.length }))
  refine k2.sub (List.Sublist.cons₂ _ (List.Sublist.cons₂ _ (List.Sublist.cons _ (List.Sublist.cons₂ _ ?_))))
  exact List.Sublist.append hJ (List.Sublist.refl _)
/-- a job's dict changes -/
theorem wj_set {X Y : List Jr} {r : Jr} (h : C S f M N m (wo { o with jobs := X ++ r :: Y } ++ L)) (j' : Jb) (hc : j'.cells = r.j.cells) :
    C (S.set r.id (.dK false (ojF r.cid j'))) f M N m (wo { o with jobs := X ++ { r with j := j' } :: Y } ++ L) := by
  have sh : ∀ r' : Jr, r'.id = r.id → (wo { o with jobs := X ++ r' :: Y } ++ L) = ((o.id, AO.dK false (owF o)) :: (o.uw, AO.lst ((X ++ r :: Y).map fun r => A.ref r.id)) :: (o.pd, .lst o.pend) :: X.flatMap wj) ++ (r'.id, AO.dK false (ojF r'.cid r'.j)) :: ((r'.cid, .lst r'.j.cells) :: Y.flatMap wj ++ L) := fun r' hr' => by
    simp [wo, wj, owF, hr']
  rw [sh r rfl] at h
  rw [sh { r with j := j' } rfl]
  have k1 := (h.perm List.perm_middle).set (.dK false (ojF r.cid j'))
  have k2 := k1.perm List.perm_middle.symm
  rw [← hc] at k2
  exact k2
/-- a job's cells change -/
theorem wj_setC {X Y : List Jr} {r : Jr} (h : C S f M N m (wo { o with jobs := X ++ r :: Y } ++ L)) (cs : List A) :
    C (S.set r.cid (.lst cs)) f M N m (wo { o with jobs := X ++ { r with j := { r.j with cells := cs } } :: Y } ++ L) := by
  have sh : ∀ r' : Jr, r'.id = r.id → (wo { o with jobs := X ++ r' :: Y } ++ L) = ((o.id, AO.dK false (owF o)) :: (o.uw, AO.lst ((X ++ r :: Y).map fun r => A.ref r.id)) :: (o.pd, .lst o.pend) :: X.flatMap wj ++ [(r'.id, AO.dK false (ojF r'.cid r'.j))]) ++ (r'.cid, .lst r'.j.cells) :: (Y.flatMap wj ++ L) := fun r' hr' => by
    simp [wo, wj, owF, hr']
  rw [sh r rfl] at h
  rw [sh { r with j := { r.j with cells := cs } } rfl]
  have k1 := (h.perm List.perm_middle).set (.lst cs)
  exact k1.perm List.perm_middle.symm
/-- a job's cells are another list -/
theorem wj_setN {X Y : List Jr} {r : Jr} (h : C S f M N m (wo { o with jobs := X ++ r :: Y } ++ L)) (j' : Jb) :
    C ((S ++ [AO.lst j'.cells]).set r.id (.dK false (ojF S.length j'))) f M N m (wo { o with jobs := X ++ Jr.mk r.id S.length j' :: Y } ++ L) := by
  have sh : ∀ r' : Jr, r'.id = r.id → (wo { o with jobs := X ++ r' :: Y } ++ L) = ((o.id, AO.dK false (owF o)) :: (o.uw, AO.lst ((X ++ r :: Y).map fun r => A.ref r.id)) :: (o.pd, .lst o.pend) :: X.flatMap wj) ++ ((r'.id, AO.dK false (ojF r'.cid r'.j)) :: (r'.cid, .lst r'.j.cells) :: (Y.flatMap wj ++ L)) := fun r' hr' => by
    simp [wo, wj, owF, hr']
  rw [sh r rfl] at h
  rw [sh (Jr.mk r.id S.length j') rfl]
  generalize ((o.id, AO.dK false (owF o)) :: (o.uw, AO.lst ((X ++ r :: Y).map fun r => A.ref r.id)) :: (o.pd, AO.lst o.pend) :: X.flatMap wj) = Z at *
  have k1 := h.new (AO.lst j'.cells)
  have k2 := (k1.perm (List.perm_middle (l₁ := (S.length, AO.lst j'.cells) :: Z))).set (.dK false (ojF S.length j'))
  have k3 := k2.sub (List.Sublist.cons₂ _ (List.Sublist.cons₂ _ (List.Sublist.append (List.Sublist.refl Z) (List.sublist_cons_self _ (Y.flatMap wj ++ L)))))
  exact k3.perm (List.perm_append_comm_assoc [(r.id, AO.dK false (ojF S.length j')), (S.length, AO.lst j'.cells)] Z (Y.flatMap wj ++ L))
theorem filter_wj (p : Jr → Bool) : ∀ xs : List Jr, ((xs.filter p).flatMap wj).Sublist (xs.flatMap wj)
  | [] => List.Sublist.refl _
  | a :: r => by
    rw [List.filter_cons]
    split
    · rw [List.flatMap_cons, List.flatMap_cons]
      exact List.Sublist.append (List.Sublist.refl _) (filter_wj p r)
    · rw [List.flatMap_cons]
      exact (filter_wj p r).trans (List.sublist_append_right _ _)
/-- two entries -/
theorem ent_ne (S : Sto) (a b : Jb) : aNe a.ent b.ent S = .ok (.bl (!(decide (a.tag = b.tag ∧ a.kind = b.kind ∧ a.block = b.block ∧ a.ph = b.ph ∧ a.seq = b.seq)))) S := by
  have hs : (PySem.Str.ofString a.kind == PySem.Str.ofString b.kind) = decide (a.kind = b.kind) := by
    by_cases h : a.kind = b.kind
    · rw [h]; simp
    · rw [decide_eq_false h]
      exact beq_eq_false_iff_ne.mpr fun z => h (str_inj z)
  have e : aEqB a.ent b.ent S = some (decide (a.tag = b.tag ∧ a.kind = b.kind ∧ a.block = b.block ∧ a.ph = b.ph ∧ a.seq = b.seq)) := by
    have k : PyData.eqv (.tuple [.int a.tag, .str (PySem.Str.ofString a.kind), .int a.block, .int a.ph, .int a.seq]) (.tuple [.int b.tag, .str (PySem.Str.ofString b.kind), .int b.block, .int b.ph, .int b.seq]) = decide (a.tag = b.tag ∧ a.kind = b.kind ∧ a.block = b.block ∧ a.ph = b.ph ∧ a.seq = b.seq) := by
      simp only [PyData.eqv, PyData.eqvAll, hs]
      by_cases h1 : a.tag = b.tag <;> by_cases h2 : a.kind = b.kind <;> by_cases h3 : a.block = b.block <;> by_cases h4 : a.ph = b.ph <;> by_cases h5 : a.seq = b.seq <;> simp [h1, h2, h3, h4, h5]
    simp only [Jb.ent, aEqB, toD, A.dat, A.dats]
    rw [k]
    simp [PyData.depth, PyData.depthAll]
  simp only [aNe, e]
/-- a job is dropped -/
def dropL (o : Dv) (s : Int) : List Jr := o.jobs.filter fun q => !(q.j.seq == s)
theorem comp_drop (h : C S f M N m (wo o ++ L)) (hj : o.jobs.length < 1000) {r0 : Jr} (hr : r0 ∈ o.jobs) (hnd : (o.jobs.map (·.j.seq)).Nodup) (a2 a3 : A) :
    xLc (iaL (xOp aGet (xVar 0) (xC (.str "jobs")))) (gN 4) (xT (xOp aNe (xOp aGet (xVar 4) (xC (.str "entry"))) (xOp aGet (xVar 1) (xC (.str "entry"))))) (xVar 4) [4] [some (.ref o.id), some (.ref r0.id), some a2, some a3, none] S =
      .ok (.ref S.length) (S ++ [.lst ((dropL o r0.j.seq).map fun r => .ref r.id)]) := by
  have a0 := o_at h
  have cmp := comp_l (r := o.uw) (xs := o.jobs.map fun r => A.ref r.id) (j := 4) (fe := xOp aGet (xVar 0) (xC (.str "jobs"))) (tt := xT (xOp aNe (xOp aGet (xVar 4) (xC (.str "entry"))) (xOp aGet (xVar 1) (xC (.str "entry"))))) (te := xVar 4) (as := [some (.ref o.id), some (.ref r0.id), some a2, some a3, none]) S
    (fun i => !((o.jobs.getD (i - 0) r0).j.seq == r0.j.seq)) (fun i => A.ref (o.jobs.getD (i - 0) r0).id) (by simp [aGet_s a0, owF, alk]) (j_at h) (by simpa using Nat.lt_of_lt_of_le hj (by decide)) fun acc0 i x hx => by
      rw [List.getElem?_map] at hx
      cases hz : o.jobs[i]? with
      | none => rw [hz] at hx; cases hx
      | some r =>
        rw [hz] at hx
        cases hx
        have hg : o.jobs.getD (i - 0) r0 = r := by rw [Nat.sub_zero, List.getD_eq_getElem?_getD, hz]; rfl
        rw [hg]
        have h2 := h.app [.lst acc0]
        have hrm := List.mem_of_getElem? hz
        have j1 := (wj_at h2 hrm).1
        have j0 := (wj_at h2 hr).1
        refine ⟨?_, fun _ => by simp⟩
        have key : (r.j.tag = r0.j.tag ∧ r.j.kind = r0.j.kind ∧ r.j.block = r0.j.block ∧ r.j.ph = r0.j.ph ∧ r.j.seq = r0.j.seq) ↔ r.j.seq = r0.j.seq := by
          refine ⟨fun z => z.2.2.2.2, fun z => ?_⟩
          have : r = r0 := by
            obtain ⟨i0, hi0⟩ := List.getElem?_of_mem hr
            have e1 : (o.jobs.map (·.j.seq))[i]? = some r.j.seq := by rw [List.getElem?_map, hz]; rfl
            have e2 : (o.jobs.map (·.j.seq))[i0]? = some r0.j.seq := by rw [List.getElem?_map, hi0]; rfl
            have : i = i0 := (List.getElem?_inj (by rw [List.length_map]; exact (List.getElem?_eq_some_iff.mp hz).1) hnd).mp (by rw [e1, e2, z])
            subst this
            rw [hz] at hi0
            exact Option.some.inj hi0
          rw [this]
          exact ⟨rfl, rfl, rfl, rfl, rfl⟩
        have en := ent_ne (S ++ [AO.lst acc0]) r.j r0.j
        simp only [key] at en
        simp [aGet_s j1, aGet_s j0, ojF, alk, en]
        by_cases z : r.j.seq = r0.j.seq <;> simp [z]
  have pm := pick_map (fun r : Jr => !(r.j.seq == r0.j.seq)) (fun r : Jr => A.ref r.id) r0 o.jobs 0
  simp only [List.length_map] at cmp
  rw [pm] at cmp
  exact cmp
end
end Ra19P
/-! RaR19: the law's own device, behind a step (joined). -/
namespace Ra19P
open RA RaP RaM L2
open PySem (PyData)
open Ra19 (a_law a_law_driver a_law_begin a_law_next a_law_describe a_law_wish a_law_taken a_law_moved a_law_behind)
@[simp] theorem isB2_b (a b : Bool) (S : Sto) : aIsB2 (.bl a) (.bl b) S = .ok (.bl (decide (a = b))) S := rfl
@[simp] theorem isB2_n (b : Bool) (S : Sto) : aIsB2 .non (.bl b) S = .ok (.bl false) S := rfl
@[simp] theorem isB2_t (xs : List A) (b : Bool) (S : Sto) : aIsB2 (.tup xs) (.bl b) S = .ok (.bl false) S := rfl
theorem cut3 (a b c : A) : cutA [a, b, c] none (some 2) = [a, b] := by simp [cutA, HT.sIx]
theorem cut4 (a b c d : A) : cutA [a, b, c, d] none (some 2) = [a, b] := by simp [cutA, HT.sIx]
theorem cut5 (a b c d e : A) : cutA [a, b, c, d, e] none (some 2) = [a, b] := by simp [cutA, HT.sIx]
section
variable {S : Sto} {f : MR → Nat} {M : Mem} {N m : Nat} {L : List (Nat × AO)} {o : Dv} {D D' : Dd} {q : Rq} {res : A} {c : Int}
/-! ### a job moved -/
section
variable {X Y : List Jr} {r : Jr}
theorem mv_commit (h : C S f M N m (wo { o with jobs := X ++ r :: Y } ++ L)) (b g s : A) (vs : A) :
    a_law_moved [.ref o.id, .ref r.id, .tup [.str "commit", b, vs, g, s], .non] S = .ok .non (S.set r.id (.dK false (ojF r.cid { r.j with dec := true }))) := by
  have k1 := (wj_at h (r := r) (by simp)).1
  simp only [ojF] at k1
  simp [a_law_moved, fnA_d, aPutK_s k1, aput, alk, ojF, Jb.ent, Jb.kind]
theorem mv_fetch (h : C S f M N m (wo { o with jobs := X ++ r :: Y } ++ L)) (b g s : A) (cs : List A) :
    a_law_moved [.ref o.id, .ref r.id, .tup [.str "fetch", b, g, s], .tup cs] S = .ok .non (((S.set r.id (.dK false (ojF r.cid { r.j with dec := true }))) ++ [AO.lst cs]).set r.id (.dK false (ojF S.length { r.j with dec := true, cells := cs }))) := by
  have k1 := (wj_at h (r := r) (by simp)).1
  have h2 := wj_set h { r.j with dec := true } rfl
  have k2 := (wj_at (h2.app [.lst cs]) (r := { r with j := { r.j with dec := true } }) (by simp)).1
  have hl : (S.set r.id (.dK false (ojF r.cid { r.j with dec := true }))).length = S.length := List.length_set
  generalize eS : S.set r.id (.dK false (ojF r.cid { r.j with dec := true })) = S1 at *
  simp only [ojF, Jb.ent, Jb.kind] at k1 k2 eS
  simp [a_law_moved, fnA_d, aPutK_s k1, aput, alk, eS, hl, aPutK_s k2, ojF, Jb.ent, Jb.kind]
theorem mv_read1 (h : C S f M N m (wo { o with jobs := X ++ r :: Y } ++ L)) (p i : Int) (u : A) (hl : r.j.cells.length < 1000) :
    a_law_moved [.ref o.id, .ref r.id, .tup [.str "dma read", .int p, .int i], .tup [u]] S = .ok .non ((S.set r.cid (.lst (r.j.cells ++ [u]))).set r.id (.dK false (ojF r.cid { r.j with cells := r.j.cells ++ [u], moved := r.j.moved + 1 }))) := by
  obtain ⟨k1, c1⟩ := wj_at h (r := r) (by simp)
  have h2 := wj_setC h (r.j.cells ++ [u])
  have k2 := (wj_at h2 (r := { r with j := { r.j with cells := r.j.cells ++ [u] } }) (by simp)).1
  generalize eS : S.set r.cid (.lst (r.j.cells ++ [u])) = S1 at *
  simp only [ojF, Jb.ent, Jb.kind] at k1 k2
  have hl : r.j.cells.length < 1000000 := by omega
  simp [a_law_moved, fnA_d, cut3, aGet_s k1, alk, aIsL_d c1, aApp_d c1, hl, eS, aGet_s k2, aPutK_s k2, aput, ojF, Jb.ent, Jb.kind]
theorem mv_write1 (h : C S f M N m (wo { o with jobs := X ++ r :: Y } ++ L)) (p i : Int) (u : A) (hp : p ≠ 1) :
    a_law_moved [.ref o.id, .ref r.id, .tup [.str "dma write", .int p, .int i, u], .bl true] S = .ok .non (S.set r.id (.dK false (ojF r.cid { r.j with moved := r.j.moved + 1 }))) := by
  obtain ⟨k1, c1⟩ := wj_at h (r := r) (by simp)
  simp only [ojF, Jb.ent, Jb.kind] at k1
  simp [a_law_moved, fnA_d, cut4, hp, aGet_s k1, alk, aPutK_s k1, aput, ojF, Jb.ent, Jb.kind]
end
/-- a job is dropped -/
theorem drop_C (h : C S f M N m (wo o ++ L)) (s : Int) : C ((S ++ [AO.lst ((dropL o s).map fun r => .ref r.id)]).set o.id (.dK false (owF { o with uw := S.length }))) f M N m (wo { o with uw := S.length, jobs := dropL o s } ++ L) :=
  own_uw h _ (filter_wj _ _)
theorem mv_drop (h : C S f M N m (wo o ++ L)) (hj : o.jobs.length < 1000) {r0 : Jr} (hr : r0 ∈ o.jobs) (hnd : (o.jobs.map (·.j.seq)).Nodup) {rq : List A} {res : A}
    (hc : (∃ p i : Int, rq = [.str "dma read", .int p, .int i] ∧ res = .non) ∨ (∃ (p i : Int) (u : A), rq = [.str "dma write", .int p, .int i, u] ∧ res = .bl false)) :
    a_law_moved [.ref o.id, .ref r0.id, .tup rq, res] S = .ok .non ((S ++ [AO.lst ((dropL o r0.j.seq).map fun r => .ref r.id)]).set o.id (.dK false (owF { o with uw := S.length }))) := by
  have a1 := o_at (h.app [AO.lst ((dropL o r0.j.seq).map fun r => .ref r.id)])
  simp only [owF] at a1
  have cd := comp_drop h hj hr hnd (.tup rq) res
  generalize AO.lst ((dropL o r0.j.seq).map fun r => .ref r.id) = nl at *
  rcases hc with ⟨p, i, rfl, rfl⟩ | ⟨p, i, u, rfl, rfl⟩
  · simp [a_law_moved, fnA_d, cut3, cd, aPutK_s a1, aput, alk, owF]
  · by_cases hp : p = 1
    · subst hp
      simp [a_law_moved, fnA_d, cut4, cd, aPutK_s a1, aput, alk, owF]
    · simp [a_law_moved, fnA_d, cut4, hp, cd, aPutK_s a1, aput, alk, owF]
theorem mv_comp1 (h : C S f M N m (wo o ++ L)) (hj : o.jobs.length < 1000) {r0 : Jr} (hr : r0 ∈ o.jobs) (hnd : (o.jobs.map (·.j.seq)).Nodup) (i : Int) (u : A) :
    ∃ (S' : Sto) (o' : Dv), a_law_moved [.ref o.id, .ref r0.id, .tup [.str "dma write", .int 1, .int i, u], .bl true] S = .ok .non S' ∧ C S' f M N m (wo o' ++ L) ∧ o'.id = o.id ∧
      o'.gen = o.gen ∧ o'.taken = o.taken ∧ o'.done = o.done + 1 ∧ o'.jobs = dropL o r0.j.seq ∧ o'.pend = [.tup [.str "write", .int 51, .int 1]] := by
  have a1 := o_at (h.app [AO.lst ((dropL o r0.j.seq).map fun r => .ref r.id)])
  have cd := comp_drop h hj hr hnd (.tup [.str "dma write", .int 1, .int i, u]) (.bl true)
  have h1 := drop_C h r0.j.seq
  have a2 := o_at h1
  have h2 := own_set h1 { o with uw := S.length, jobs := dropL o r0.j.seq, done := o.done + 1 } rfl rfl rfl rfl rfl
  have h3 := own_pd h2 [.tup [.str "write", .int 51, .int 1]]
  have h2a := h2.app [AO.lst [.tup [.str "write", .int 51, .int 1]]]
  have a3 := o_at h2a
  refine ⟨_, _, ?_, h3, rfl, rfl, rfl, rfl, rfl, rfl⟩
  generalize AO.lst ((dropL o r0.j.seq).map fun r => .ref r.id) = nl at *
  generalize e1 : (S ++ [nl]).set o.id (.dK false (owF { o with uw := S.length })) = S1 at *
  generalize e2 : S1.set o.id (.dK false (owF { o with uw := S.length, jobs := dropL o r0.j.seq, done := o.done + 1 })) = S2 at *
  simp only [owF] at a1 a2 a3 e1 e2
  simp [a_law_moved, fnA_d, cut4, cd, aPutK_s a1, aput, alk, e1, aGet_s a2, aPutK_s a2, e2, aPutK_s a3, owF]
end
end Ra19P
/-! RaT19: the law's own device follows the record. -/
namespace Ra19P
open RA RaP RaM L2
open PySem (PyData)
open Ra19 (a_law a_law_driver a_law_begin a_law_next a_law_describe a_law_wish a_law_taken a_law_moved a_law_behind)
section
variable {S : Sto} {f : MR → Nat} {M : Mem} {N m : Nat} {L : List (Nat × AO)} {o : Dv} {D D' : Dd} {q : Rq} {res : A} {c : Int}
theorem tk_no (h : C S f M N m (wo o ++ L)) (hr : res = .non ∨ res = .tup [.non] ∨ ∃ j : Jb, res = .tup [j.ent] ∧ ¬(j.ph = 1 - o.taken / 4 % 2 ∧ j.seq = o.taken)) : a_law_taken [.ref o.id, res] S = .ok .non S := by
  have a0 := o_at h
  simp only [owF] at a0
  rcases hr with rfl | rfl | ⟨j, rfl, hn⟩
  · simp [a_law_taken, fnA_d]
  · simp [a_law_taken, fnA_d]
  · by_cases h1 : j.seq = o.taken
    · have h2 : ¬ j.ph = 1 - o.taken / 4 % 2 := fun z => hn ⟨z, h1⟩
      simp [a_law_taken, fnA_d, Jb.ent, aGet_s a0, alk, h1, h2]
    · simp [a_law_taken, fnA_d, Jb.ent, aGet_s a0, alk, h1]
theorem tk_yes (h : C S f M N m (wo o ++ L)) (hl : o.jobs.length < 1000) (j : Jb) (hj : j.seq = o.taken ∧ j.ph = 1 - o.taken / 4 % 2 ∧ j.cells = [] ∧ j.moved = 0 ∧ j.dec = false) :
    ∃ (S' : Sto) (o' : Dv) (r : Jr), a_law_taken [.ref o.id, .tup [j.ent]] S = .ok .non S' ∧ C S' f M N m (wo o' ++ L) ∧ o'.id = o.id ∧ o'.gen = o.gen ∧ o'.taken = o.taken + 1 ∧ o'.done = o.done ∧ o'.jobs = o.jobs ++ [r] ∧ r.j = j ∧ o'.pend = o.pend := by
  have a0 := o_at h
  obtain ⟨h1, h2, h3, h4, h5⟩ := hj
  have k0 : C S f M N m ((o.id, .dK false (owF o)) :: ((o.uw, .lst (o.jobs.map fun r => .ref r.id)) :: (o.pd, .lst o.pend) :: o.jobs.flatMap wj ++ L)) := h
  have k2 := (((k0.new (AO.dK false (ojF (S.length + 1) j))).new (.lst [])).app [AO.lst [.ref S.length]]).new (.lst ((o.jobs.map fun r => A.ref r.id) ++ [A.ref S.length]))
  have ha : ∀ x y z : AO, S ++ [x] ++ [y] ++ [z] = S ++ [x, y, z] := fun x y z => by simp
  rw [ha] at k2
  rw [show (S ++ [AO.dK false (ojF (S.length + 1) j)]).length = S.length + 1 by simp, show (S ++ [AO.dK false (ojF (S.length + 1) j), AO.lst [], AO.lst [.ref S.length]]).length = S.length + 3 by simp] at k2
  generalize eS2 : S ++ [AO.dK false (ojF (S.length + 1) j), AO.lst [], AO.lst [.ref S.length]] ++ [AO.lst ((o.jobs.map fun r => A.ref r.id) ++ [A.ref S.length])] = S2 at *
  have k3 := k2.perm (List.perm_middle (l₁ := [(S.length + 3, AO.lst ((o.jobs.map fun r => A.ref r.id) ++ [A.ref S.length])), (S.length + 1, AO.lst []), (S.length, AO.dK false (ojF (S.length + 1) j))]) (a := (o.id, AO.dK false (owF o))))
  have i3 := k3.has.hd
  have k4 := k3.set (AO.dK false (owF { o with uw := S.length + 3 }))
  have i4 := k4.has.hd
  generalize eS3 : S2.set o.id (AO.dK false (owF { o with uw := S.length + 3 })) = S3 at *
  have k5 := k4.set (AO.dK false (owF { o with uw := S.length + 3, taken := o.taken + 1 }))
  refine ⟨_, { o with uw := S.length + 3, taken := o.taken + 1, jobs := o.jobs ++ [⟨S.length, S.length + 1, j⟩] }, ⟨S.length, S.length + 1, j⟩, ?_, C.perm (C.sub k5 (L' := (o.id, AO.dK false (owF { o with uw := S.length + 3, taken := o.taken + 1 })) :: (S.length + 3, AO.lst ((o.jobs.map fun r => A.ref r.id) ++ [A.ref S.length])) :: (S.length + 1, AO.lst []) :: (S.length, AO.dK false (ojF (S.length + 1) j)) :: ((o.pd, AO.lst o.pend) :: o.jobs.flatMap wj ++ L)) ?_) ?_, rfl, rfl, rfl, rfl, rfl, rfl, rfl⟩
  · have b0 := j_at (h.app [AO.dK false (ojF (S.length + 1) j), AO.lst [], AO.lst [.ref S.length]])
    have c0 : (S ++ [AO.dK false (ojF (S.length + 1) j), AO.lst [], AO.lst [.ref S.length]])[S.length + 2]? = some (AO.lst [.ref S.length]) := by simp
    have ad := aAdd_l b0 c0
    have lc : (o.jobs.map fun r => A.ref r.id).length + [A.ref S.length].length ≤ 1000000 := by simp only [List.length_map, List.length_cons, List.length_nil]; omega
    rw [if_pos lc] at ad
    rw [show (S ++ [AO.dK false (ojF (S.length + 1) j), AO.lst [], AO.lst [.ref S.length]]).length = S.length + 3 by simp, eS2] at ad
    clear k2 k3 k4 k5 b0 c0 lc eS2
    generalize (o.jobs.map fun r => A.ref r.id) ++ [A.ref S.length] = nl at *
    simp only [owF] at a0 i3 i4 eS3
    simp only [ojF, h3, h4, h5] at ad
    have ej : j.ent = A.tup [.int j.tag, .str j.kind, .int j.block, .int (1 - o.taken / 4 % 2), .int o.taken] := by rw [Jb.ent, h1, h2]
    rw [ej] at ad ⊢
    simp [a_law_taken, fnA_d, aGet_s a0, alk, xDisp, xVals, aDisp, at_app0, at_app, set_app0, set_app, mergeA, aput, ad, aPutK_s i3, eS3, aGet_s i4, aPutK_s i4, owF]
  · refine List.Sublist.cons₂ _ (List.Sublist.cons₂ _ (List.Sublist.cons₂ _ (List.Sublist.cons₂ _ ?_)))
    exact List.sublist_cons_self _ _
  · simp only [wo, List.flatMap_append, List.map_append, List.map_cons, List.map_nil, List.flatMap_cons, List.flatMap_nil, List.append_nil, wj, h3]
    refine List.Perm.cons _ (List.Perm.cons _ ?_)
    have a1 : ([(S.length + 1, AO.lst []), (S.length, AO.dK false (ojF (S.length + 1) j))] ++ ((o.pd, AO.lst o.pend) :: o.jobs.flatMap wj)).Perm (((o.pd, AO.lst o.pend) :: o.jobs.flatMap wj) ++ [(S.length, AO.dK false (ojF (S.length + 1) j)), (S.length + 1, AO.lst [])]) :=
      List.perm_append_comm.trans (List.Perm.append_left _ (List.Perm.swap _ _ _))
    have a2 := a1.append_right L
    simpa using a2
/-- behind a step -/
theorem behind_d (h : C S f M N m (wo o ++ L)) (ho : o.is D) (hG : Good false D) (hs : Stp false D c q res D') :
    ∃ (S' : Sto) (o' : Dv), a_law_behind [.ref o.id, .int c, q.a, res] S = .ok .non S' ∧ C S' f M N m (wo o' ++ L) ∧ o'.id = o.id ∧ o'.is D' := by
  obtain ⟨g0, g1, g2, g3, g4⟩ := id ho
  have lj : o.jobs.length = D.jobs.length := by rw [← g3, List.length_map]
  have l2 := hG.len
  have lo : o.jobs.length < 1000 := by omega
  have hnd : (o.jobs.map (·.j.seq)).Nodup := by
    have := hG.nd
    rw [← g3, List.map_map] at this
    exact this
  have a0 := o_at h
  have h1 := h.app [AO.lst []]
  have nw : (S ++ [AO.lst []])[S.length]? = some (AO.lst []) := by simp
  have n1 := aNe_lists (p_at h1) nw rfl
  have a1 := o_at h1
  have c1 := j_at h1
  have z1 := bLen_l c1
  simp only [List.length_map] at z1
  generalize eS1 : S ++ [AO.lst []] = S1 at *
  cases hs with
  | pend q res hp =>
    have hp' : o.pend = [q.a] := g4.trans hp
    rw [hp'] at n1
    have h2 := own_pd h1 []
    have a2 := o_at (h1.app [AO.lst []])
    refine ⟨_, _, ?_, h2, rfl, g0, g1, g2, g3, rfl⟩
    generalize q.a = qa at *
    simp only [owF] at a0 a1 a2
    simp [a_law_behind, fnA_d, aGet_s a0, alk, eS1, n1, aPutK_s a2, aput, owF]
  | reset x hp hc =>
    have hp' : o.pend = [] := g4.trans hp
    rw [hp'] at n1
    by_cases hx : x = D.gen
    · refine ⟨S1, o, ?_, h1, rfl, ?_⟩
      · simp only [owF] at a0 a1
        simp [a_law_behind, fnA_d, aGet_s a0, aGet_s a1, alk, eS1, n1, Rq.l, g0, hx]
      · rw [dreset, if_pos hx]
        exact ho
    · have k1 := own_set h1 { o with gen := .int x } rfl rfl rfl rfl rfl
      have i1 := o_at k1
      have k2 := own_set k1 { o with gen := .int x, taken := 0 } rfl rfl rfl rfl rfl
      have i2 := o_at k2
      have k3 := own_set k2 { o with gen := .int x, taken := 0, done := 0 } rfl rfl rfl rfl rfl
      have i3 := o_at (k3.app [AO.lst []])
      have k4 := own_uw k3 [] (by simp)
      have i4 := o_at (k4.app [AO.lst [.tup [.str "write", .int 50, .int x]]])
      have k5 := own_pd k4 [.tup [.str "write", .int 50, .int x]]
      refine ⟨_, _, ?_, k5, rfl, ?_⟩
      · generalize e1 : S1.set o.id (.dK false (owF { o with gen := .int x })) = T1 at *
        generalize e2 : T1.set o.id (.dK false (owF { o with gen := .int x, taken := 0 })) = T2 at *
        generalize e3 : T2.set o.id (.dK false (owF { o with gen := .int x, taken := 0, done := 0 })) = T3 at *
        simp only [List.map_nil] at i4 ⊢
        generalize e4 : (T3 ++ [AO.lst []]).set o.id (.dK false (owF { o with gen := .int x, taken := 0, done := 0, uw := T3.length })) = T4 at *
        simp only [owF] at a0 a1 e1 e2 e3 e4 i1 i2 i3 i4
        simp [a_law_behind, fnA_d, aGet_s a0, aGet_s a1, alk, eS1, n1, Rq.l, g0, hx, aPutK_s a1, aput, e1, aPutK_s i1, e2, aPutK_s i2, e3, aPutK_s i3, e4, aPutK_s i4, owF]
      · rw [dreset, if_neg hx]
        exact ⟨rfl, rfl, rfl, rfl, rfl⟩
  | descr0 res hp hc hj hr =>
    have hp' : o.pend = [] := g4.trans hp
    rw [hp'] at n1
    rw [← g1] at hr
    have tk := tk_no h1 hr
    refine ⟨S1, o, ?_, h1, rfl, ho⟩
    simp only [owF] at a0 a1
    simp [a_law_behind, fnA_d, aGet_s a0, aGet_s a1, alk, eS1, n1, Rq.l, cut3, tk]
  | descr1 tag block wr t0 t3 b0 b7 hp hc hj =>
    have hp' : o.pend = [] := g4.trans hp
    rw [hp'] at n1
    obtain ⟨S', o', r, e, hC, x1, x2, x3, x4, x5, x6, x7⟩ := tk_yes h1 lo (Jb.mk tag wr block (1 - D.taken / 4 % 2) D.taken [] 0 false) ⟨g1.symm, by rw [g1], rfl, rfl, rfl⟩
    refine ⟨S', o', ?_, hC, x1, x2.trans g0, by rw [x3, g1], by rw [x4, g2], by rw [x5, List.map_append, g3, List.map_cons, x6]; rfl, by rw [x7, g4]⟩
    simp only [owF] at a0 a1
    generalize (Jb.mk tag wr block (1 - D.taken / 4 % 2) D.taken [] 0 false).ent = en at *
    simp [a_law_behind, fnA_d, aGet_s a0, aGet_s a1, alk, eS1, n1, Rq.l, cut3, e]
  | read1 X j Y u pk hd hw hm hu =>
    obtain ⟨X', r, Y', e1, e2, rfl, e4, e5, e6, e7, e8, e9⟩ := pk_own ho pk
    rw [e6] at n1
    have g := hG.jobs r.j (by rw [pk.2.2.2.1]; simp)
    have hV : o = { o with jobs := X' ++ r :: Y' } := by rw [← e1]
    have hrm : r ∈ o.jobs := by rw [e1]; simp
    have h1' := h1
    rw [hV] at h1'
    have t0 := g.t0
    have hcl := (g.w hw).1
    have m3 := g.m4
    have mv := mv_read1 h1' (2 + r.j.tag) r.j.moved u (by omega)
    have k := wj_set (wj_setC h1' (r.j.cells ++ [u])) { r.j with cells := r.j.cells ++ [u], moved := r.j.moved + 1 } rfl
    refine ⟨_, _, ?_, k, rfl, g0, g1, g2, by simp [e2, e4], g4⟩
    have hp0 : ¬ (2 + r.j.tag = 0) := by omega
    simp only [owF] at a0 a1
    generalize 2 + r.j.tag = p at *
    simp [a_law_behind, fnA_d, aGet_s a0, aGet_s a1, alk, eS1, n1, Rq.a, Rq.l, cut3, cut4, cut5, hp0, z1, e5, aIx_l c1, e8, mv]
  | read0 X j Y pk hd hw hm =>
    obtain ⟨X', r, Y', e1, e2, rfl, e4, e5, e6, e7, e8, e9⟩ := pk_own ho pk
    rw [e6] at n1
    have g := hG.jobs r.j (by rw [pk.2.2.2.1]; simp)
    have hV : o = { o with jobs := X' ++ r :: Y' } := by rw [← e1]
    have hrm : r ∈ o.jobs := by rw [e1]; simp
    have h1' := h1
    rw [hV] at h1'
    have t0 := g.t0
    have mv := mv_drop h1 lo hrm hnd (.inl ⟨2 + r.j.tag, r.j.moved, rfl, rfl⟩)
    have k := drop_C h1 r.j.seq
    refine ⟨_, _, ?_, k, rfl, g0, g1, g2, by show (dropL o r.j.seq).map (·.j) = _; rw [dropL, filter_jobs, g3]; rfl, g4⟩
    have hp0 : ¬ (2 + r.j.tag = 0) := by omega
    simp only [owF] at a0 a1
    generalize 2 + r.j.tag = p at *
    simp [a_law_behind, fnA_d, aGet_s a0, aGet_s a1, alk, eS1, n1, Rq.a, Rq.l, cut3, cut4, cut5, hp0, z1, e5, aIx_l c1, e8, mv]
  | commit X j Y pk hd hw hm =>
    obtain ⟨X', r, Y', e1, e2, rfl, e4, e5, e6, e7, e8, e9⟩ := pk_own ho pk
    rw [e6] at n1
    have g := hG.jobs r.j (by rw [pk.2.2.2.1]; simp)
    have hV : o = { o with jobs := X' ++ r :: Y' } := by rw [← e1]
    have hrm : r ∈ o.jobs := by rw [e1]; simp
    have h1' := h1
    rw [hV] at h1'
    have t0 := g.t0
    have mv := mv_commit h1' (.int r.j.block) (.int D.gen) (.int r.j.seq) (.tup r.j.cells)
    have k := wj_set h1' { r.j with dec := true } rfl
    refine ⟨_, _, ?_, k, rfl, g0, g1, g2, by simp [e2, e4], g4⟩
    simp only [owF] at a0 a1
    simp [a_law_behind, fnA_d, aGet_s a0, aGet_s a1, alk, eS1, n1, Rq.a, Rq.l, cut3, cut4, cut5, z1, e5, aIx_l c1, e8, mv]
  | fetch X j Y cs pk hd hw h4 hcs =>
    obtain ⟨X', r, Y', e1, e2, rfl, e4, e5, e6, e7, e8, e9⟩ := pk_own ho pk
    rw [e6] at n1
    have g := hG.jobs r.j (by rw [pk.2.2.2.1]; simp)
    have hV : o = { o with jobs := X' ++ r :: Y' } := by rw [← e1]
    have hrm : r ∈ o.jobs := by rw [e1]; simp
    have h1' := h1
    rw [hV] at h1'
    have t0 := g.t0
    have mv := mv_fetch h1' (.int r.j.block) (.int D.gen) (.int r.j.seq) cs
    have k := wj_setN (wj_set h1' { r.j with dec := true } rfl) { r.j with dec := true, cells := cs }
    rw [List.length_set] at k
    refine ⟨_, _, ?_, k, rfl, g0, g1, g2, by simp [e2, e4], g4⟩
    simp only [owF] at a0 a1
    simp [a_law_behind, fnA_d, aGet_s a0, aGet_s a1, alk, eS1, n1, Rq.a, Rq.l, cut3, cut4, cut5, z1, e5, aIx_l c1, e8, mv]
  | write1 X j Y u pk hd hw hm hu =>
    obtain ⟨X', r, Y', e1, e2, rfl, e4, e5, e6, e7, e8, e9⟩ := pk_own ho pk
    rw [e6] at n1
    have g := hG.jobs r.j (by rw [pk.2.2.2.1]; simp)
    have hV : o = { o with jobs := X' ++ r :: Y' } := by rw [← e1]
    have hrm : r ∈ o.jobs := by rw [e1]; simp
    have h1' := h1
    rw [hV] at h1'
    have t0 := g.t0
    have mv := mv_write1 h1' (2 + r.j.tag) r.j.moved u (by omega)
    have k := wj_set h1' { r.j with moved := r.j.moved + 1 } rfl
    refine ⟨_, _, ?_, k, rfl, g0, g1, g2, by simp [e2, e4], g4⟩
    simp only [owF] at a0 a1
    generalize 2 + r.j.tag = p at *
    simp [a_law_behind, fnA_d, aGet_s a0, aGet_s a1, alk, eS1, n1, Rq.a, Rq.l, cut3, cut4, cut5, z1, e5, aIx_l c1, e8, mv]
  | write0 X j Y u pk hd hw hm hu =>
    obtain ⟨X', r, Y', e1, e2, rfl, e4, e5, e6, e7, e8, e9⟩ := pk_own ho pk
    rw [e6] at n1
    have g := hG.jobs r.j (by rw [pk.2.2.2.1]; simp)
    have hV : o = { o with jobs := X' ++ r :: Y' } := by rw [← e1]
    have hrm : r ∈ o.jobs := by rw [e1]; simp
    have h1' := h1
    rw [hV] at h1'
    have t0 := g.t0
    have mv := mv_drop h1 lo hrm hnd (.inr ⟨2 + r.j.tag, r.j.moved, u, rfl, rfl⟩)
    have k := drop_C h1 r.j.seq
    refine ⟨_, _, ?_, k, rfl, g0, g1, g2, by show (dropL o r.j.seq).map (·.j) = _; rw [dropL, filter_jobs, g3]; rfl, g4⟩
    simp only [owF] at a0 a1
    generalize 2 + r.j.tag = p at *
    simp [a_law_behind, fnA_d, aGet_s a0, aGet_s a1, alk, eS1, n1, Rq.a, Rq.l, cut3, cut4, cut5, z1, e5, aIx_l c1, e8, mv]
  | comp1 X j Y pk hd hm =>
    obtain ⟨X', r, Y', e1, e2, rfl, e4, e5, e6, e7, e8, e9⟩ := pk_own ho pk
    rw [e6] at n1
    have g := hG.jobs r.j (by rw [pk.2.2.2.1]; simp)
    have hV : o = { o with jobs := X' ++ r :: Y' } := by rw [← e1]
    have hrm : r ∈ o.jobs := by rw [e1]; simp
    have h1' := h1
    rw [hV] at h1'
    have t0 := g.t0
    obtain ⟨S', o', mv, hC, x1, x2, x3, x4, x5, x6⟩ := mv_comp1 h1 lo hrm hnd (D.done % 4) (doneE r.j D.done)
    refine ⟨S', o', ?_, hC, x1, x2.trans g0, x3.trans g1, by rw [x4, g2], by rw [x5, dropL, filter_jobs, g3]; rfl, x6⟩
    simp only [owF] at a0 a1
    generalize doneE r.j D.done = en at *
    simp [a_law_behind, fnA_d, aGet_s a0, aGet_s a1, alk, eS1, n1, Rq.a, Rq.l, cut3, cut4, cut5, z1, e5, aIx_l c1, e8, mv]
  | comp0 X j Y pk hd hm =>
    obtain ⟨X', r, Y', e1, e2, rfl, e4, e5, e6, e7, e8, e9⟩ := pk_own ho pk
    rw [e6] at n1
    have g := hG.jobs r.j (by rw [pk.2.2.2.1]; simp)
    have hV : o = { o with jobs := X' ++ r :: Y' } := by rw [← e1]
    have hrm : r ∈ o.jobs := by rw [e1]; simp
    have h1' := h1
    rw [hV] at h1'
    have t0 := g.t0
    have mv := mv_drop h1 lo hrm hnd (.inr ⟨1, D.done % 4, doneE r.j D.done, rfl, rfl⟩)
    have k := drop_C h1 r.j.seq
    refine ⟨_, _, ?_, k, rfl, g0, g1, g2, by show (dropL o r.j.seq).map (·.j) = _; rw [dropL, filter_jobs, g3]; rfl, g4⟩
    simp only [owF] at a0 a1
    generalize doneE r.j D.done = en at *
    simp [a_law_behind, fnA_d, aGet_s a0, aGet_s a1, alk, eS1, n1, Rq.a, Rq.l, cut3, cut4, cut5, z1, e5, aIx_l c1, e8, mv]
end
end Ra19P
/-! RaU19: what stands in the memory of the law. -/
namespace Ra19P
open RA RaP RaM L2
open PySem (PyData)
def isEnt (x : A) : Prop := x = .non ∨ ∃ j : Jb, x = j.ent ∧ 0 ≤ j.tag ∧ j.tag ≤ 3 ∧ 0 ≤ j.block ∧ j.block ≤ 7 ∧ 0 ≤ j.seq ∧ 0 ≤ j.ph ∧ j.ph ≤ 1
def wdP (p : Int) (x : A) : Prop := x = .non ∨ ∃ s, x = .tup [.int p, .str s]
structure MG (M : Mem) : Prop where
  vals : ∀ x ∈ M.held, V3 x
  ent : ∀ i : Nat, i ≤ 3 → isEnt (M.held.getD i .non)
  wd : ∀ p : Nat, p ≤ 5 → wdP p (M.held.getD (56 + p) .non)
  kept : ∀ (p : Int) (v : A), alk (.inl p) M.s0.kept = some v → wdP p v
  rst : ∃ x, M.held.getD 49 .non = .int x
  blk : ∀ x ∈ M.s0.blocks, ∃ cs, x = .tup cs ∧ cs.length = 4 ∧ ∀ u ∈ cs, V3 u
section
variable {S : Sto} {f : RaM.MR → Nat} {M : Mem} {N m : Nat} {L : List (Nat × AO)} {D D' : Dd} {q : Rq} {res : A} {c : Int}
theorem getD_set_or (l : List A) (c i : Nat) (v : A) : (c = i ∧ (l.set c v).getD i .non = v) ∨ (l.set c v).getD i .non = l.getD i .non := by
  by_cases h : c = i
  · subst h
    by_cases hl : c < l.length
    · refine .inl ⟨rfl, ?_⟩
      rw [List.getD_eq_getElem?_getD, List.getElem?_set_self hl]
      rfl
    · right
      rw [List.getD_eq_getElem?_getD, List.getD_eq_getElem?_getD, List.getElem?_eq_none (by rw [List.length_set]; omega), List.getElem?_eq_none (by omega)]
  · right
    rw [List.getD_eq_getElem?_getD, List.getD_eq_getElem?_getD, List.getElem?_set_ne h]
theorem MG.set (h : MG M) (c : Nat) (v : A) (hv : V3 v) (h1 : c ≤ 3 → isEnt v) (h2 : c = 49 → ∃ x, v = .int x) (h3 : ∀ p : Nat, p ≤ 5 → c = 56 + p → wdP p v) : MG { M with held := M.held.set c v } := by
  refine ⟨fun x hx => ?_, fun i hi => ?_, fun p hp => ?_, h.kept, ?_, h.blk⟩
  · rcases List.mem_or_eq_of_mem_set hx with hx | rfl
    · exact h.vals x hx
    · exact hv
  · show isEnt ((M.held.set c v).getD i .non)
    rcases getD_set_or M.held c i v with ⟨rfl, e⟩ | e
    · rw [e]; exact h1 hi
    · rw [e]; exact h.ent i hi
  · show wdP p ((M.held.set c v).getD (56 + p) .non)
    rcases getD_set_or M.held c (56 + p) v with ⟨e0, e⟩ | e
    · rw [e]; exact h3 p hp e0
    · rw [e]; exact h.wd p hp
  · show ∃ x, (M.held.set c v).getD 49 .non = .int x
    rcases getD_set_or M.held c 49 v with ⟨e0, e⟩ | e
    · rw [e]; exact h2 e0
    · rw [e]; exact h.rst
theorem MG.acc (w : Who) (d : Bool) (q : Rq) (h : MG (ex M d q).2) : MG (acc M w d q) := ⟨h.vals, h.ent, h.wd, h.kept, h.rst, h.blk⟩
theorem wordOf_p (h : MG M) {p : Int} (p0 : 0 ≤ p) (p5 : p ≤ 5) : wdP p (wordOf M false p) := by
  have hw := h.wd p.toNat (by omega)
  unfold wordOf
  have e : (56 + 6 * di false + p).toNat = 56 + p.toNat := by have hd0 : di false = 0 := rfl; omega
  rw [e]
  rw [List.getD_eq_getElem?_getD] at hw
  cases hz : M.held[56 + p.toNat]? with
  | none => exact .inl rfl
  | some v =>
    rw [hz] at hw
    simp only
    split
    · rw [show (p.toNat : Int) = p by omega] at hw
      exact hw
    · exact .inl rfl
theorem kept_use (h : MG M) {p : Int} (p0 : 0 ≤ p) (p5 : p ≤ 5) : ∀ (k : Int) (v : A), alk (.inl k) (useK M.s0.kept p (wordOf M false p)) = some v → wdP k v := by
  intro k v e
  unfold useK at e
  split at e
  · exact h.kept k v e
  · rw [alk_aput] at e
    split at e
    · rename_i z
      have : k = p := Sum.inl.inj z
      subst this
      cases e
      exact wordOf_p h p0 p5
    · exact h.kept k v e
theorem MG.use (h : MG M) {p : Int} (p0 : 0 ≤ p) (p5 : p ≤ 5) : MG (useM M false p) := ⟨h.vals, h.ent, h.wd, kept_use h p0 p5, h.rst, h.blk⟩
theorem fr_at (h : MG M) {p : Int} (p0 : 0 ≤ p) (p5 : p ≤ 5) (r : String) : frM M false p r = .non ∨ frM M false p r = .int p := by
  unfold frM
  have k := kept_use h p0 p5 p
  show fr (alk (.inl p) (useK M.s0.kept p (wordOf M false p))) r = .non ∨ fr (alk (.inl p) (useK M.s0.kept p (wordOf M false p))) r = .int p
  cases hz : alk (.inl p) (useK M.s0.kept p (wordOf M false p)) with
  | none => exact .inl rfl
  | some v =>
    rcases k v hz with rfl | ⟨s, rfl⟩
    · exact .inl rfl
    · simp only [fr]
      split
      · exact .inr rfl
      · exact .inl rfl
theorem MG.mf (h : MG M) : MF M false := by
  refine ⟨h.rst, fun i h0 h3 => ?_, h.blk, h.vals⟩
  simp only [ex]
  rcases fr_at h (p := 0) (by decide) (by decide) "r" with e | e
  · rw [e]; exact .inl rfl
  · rw [e]
    simp only
    have e2 : (24 * di false + 4 * 0 + i).toNat = i.toNat := by have hd0 : di false = 0 := rfl; omega
    rw [e2]
    rcases h.ent i.toNat (by omega) with e | ⟨j, e, k⟩
    · rw [e]; exact .inr (.inl rfl)
    · rw [e]; exact .inr (.inr ⟨j, rfl, k⟩)
theorem mg_dw (h : MG M) {p i : Int} {v : A} (p1 : 1 ≤ p) (p5 : p ≤ 5) (i0 : 0 ≤ i) (i3 : i ≤ 3) (hv : V3 v) : MG (ex M false (.dw p i v)).2 := by
  simp only [ex]
  rcases fr_at h (p := p) (by omega) p5 "w" with e | e
  · rw [e]; exact h.use (by omega) p5
  · rw [e]
    simp only
    have e2 : (24 * di false + 4 * p + i).toNat = 4 * p.toNat + i.toNat := by have hd0 : di false = 0 := rfl; omega
    rw [e2]
    exact (h.use (by omega) p5).set _ v hv (fun z => by omega) (fun z => by omega) (fun k hk z => by omega)
theorem V3.done (j : Jb) (n : Int) : V3 (doneE j n) := V3.flat fun x hx => by
  simp only [List.mem_cons, List.not_mem_nil, or_false] at hx
  rcases hx with rfl | rfl | rfl
  · exact .inr (.inl ⟨_, rfl⟩)
  · exact .inr (.inr ⟨_, rfl⟩)
  · exact .inr (.inl ⟨_, rfl⟩)
theorem V3.ent (j : Jb) : V3 j.ent := V3.flat fun x hx => by
  simp only [List.mem_cons, List.not_mem_nil, or_false] at hx
  rcases hx with rfl | rfl | rfl | rfl | rfl
  · exact .inr (.inl ⟨_, rfl⟩)
  · exact .inr (.inr ⟨_, rfl⟩)
  · exact .inr (.inl ⟨_, rfl⟩)
  · exact .inr (.inl ⟨_, rfl⟩)
  · exact .inr (.inl ⟨_, rfl⟩)
theorem V3.word (p : Int) (s : String) : V3 (.tup [.int p, .str s]) := V3.flat fun x hx => by
  simp only [List.mem_cons, List.not_mem_nil, or_false] at hx
  rcases hx with rfl | rfl
  · exact .inr (.inl ⟨_, rfl⟩)
  · exact .inr (.inr ⟨_, rfl⟩)
theorem stp_mg (h : MG M) (hG : Good false D) (hs : Stp false D c q res D') : MG (acc M .dev false q) := by
  refine MG.acc _ _ _ ?_
  cases hs with
  | pend q res hp =>
    rcases hG.pend with z | ⟨k, x, z, k0, k1⟩
    · rw [z] at hp; cases hp
    · rw [z] at hp
      have e : q = .wr k (.int x) := by
        have e1 : (Rq.wr k (.int x)).l = q.l := A.tup.inj (List.cons.inj hp).1
        cases q <;> simp [Rq.l] at e1
        rw [e1.1, ← e1.2]
      subst e
      have hd0 : di false = 0 := rfl
      exact h.set _ _ (V3.int x) (fun z => by omega) (fun z => by omega) (fun p hp z => by omega)
  | reset x hp hc => exact h
  | descr0 res hp hc hj hr => exact h.use (by decide) (by decide)
  | descr1 tag block wr t0 t3 b0 b7 hp hc hj => exact h.use (by decide) (by decide)
  | read1 X j Y u pk hd hw hm hu =>
    have g := hG.jobs j (by rw [pk.2.2.2.1]; simp)
    exact h.use (by have := g.t0; omega) (by have := g.t3; omega)
  | read0 X j Y pk hd hw hm =>
    have g := hG.jobs j (by rw [pk.2.2.2.1]; simp)
    exact h.use (by have := g.t0; omega) (by have := g.t3; omega)
  | commit X j Y pk hd hw hm =>
    have g := hG.jobs j (by rw [pk.2.2.2.1]; simp)
    have l := (g.w hw).1
    have m4 := g.m4
    refine ⟨h.vals, h.ent, h.wd, h.kept, h.rst, fun x hx => ?_⟩
    rcases List.mem_or_eq_of_mem_set hx with hx | rfl
    · exact h.blk x hx
    · exact ⟨j.cells, rfl, by omega, g.cd⟩
  | fetch X j Y cs pk hd hw h4 hcs => exact h
  | write1 X j Y u pk hd hw hm hu =>
    have g := hG.jobs j (by rw [pk.2.2.2.1]; simp)
    have l := g.r1 hw hd
    have m0 := g.m0
    refine mg_dw h (by have := g.t0; omega) (by have := g.t3; omega) g.m0 (by omega) (g.cd _ ?_)
    rw [atI_n m0 (by omega)] at hu
    exact List.mem_of_getElem? hu
  | write0 X j Y u pk hd hw hm hu =>
    have g := hG.jobs j (by rw [pk.2.2.2.1]; simp)
    have l := g.r1 hw hd
    have m0 := g.m0
    refine mg_dw h (by have := g.t0; omega) (by have := g.t3; omega) g.m0 (by omega) (g.cd _ ?_)
    rw [atI_n m0 (by omega)] at hu
    exact List.mem_of_getElem? hu
  | comp1 X j Y pk hd hm => exact mg_dw h (by decide) (by decide) (by omega) (by omega) (V3.done _ _)
  | comp0 X j Y pk hd hm => exact mg_dw h (by decide) (by decide) (by omega) (by omega) (V3.done _ _)
/-! what the law writes -/
theorem mg_cmd (h : MG M) (p : Int) : MG (ex M false (.cmd p)).2 := ⟨h.vals, h.ent, h.wd, h.kept, h.rst, h.blk⟩
theorem mg_drop (h : MG M) : MG (ex M false .drop).2 := by
  simp only [ex]
  split
  · rename_i p t rest e
    have k : MG (M.setSd false { M.sd false with wait := rest, kept := adrop (.inl p) (M.sd false).kept }) := by
      refine ⟨h.vals, h.ent, h.wd, fun k v e => ?_, h.rst, h.blk⟩
      have e : alk (.inl k) (adrop (.inl p) M.s0.kept) = some v := e
      rw [alk_adrop] at e
      split at e
      · cases e
      · exact h.kept k v e
    exact k.set 68 (.int t) (V3.int t) (fun z => by omega) (fun z => by omega) (fun p hp z => by omega)
  · exact h
theorem mg0 : MG mem0 := by
  have hh : ∀ x ∈ mem0.held, x = .non ∨ x = .int 0 := fun x hx => by
    have hx : x ∈ held0 := hx
    simp only [held0, List.mem_append, List.mem_replicate] at hx
    rcases hx with ⟨_, rfl⟩ | ⟨_, rfl⟩ | ⟨_, rfl⟩ | ⟨_, rfl⟩ | ⟨_, rfl⟩ | ⟨_, rfl⟩ <;> simp
  refine ⟨fun x hx => ?_, fun i hi => ?_, fun p hp => ?_, fun p v e => ?_, ⟨0, rfl⟩, fun x hx => ?_⟩
  · rcases hh x hx with rfl | rfl
    · exact V3.non
    · exact V3.int 0
  · have : mem0.held.getD i .non = .non := by
      match i, hi with
      | 0, _ => rfl
      | 1, _ => rfl
      | 2, _ => rfl
      | 3, _ => rfl
    rw [this]; exact .inl rfl
  · have : mem0.held.getD (56 + p) .non = .non := by
      match p, hp with
      | 0, _ => rfl
      | 1, _ => rfl
      | 2, _ => rfl
      | 3, _ => rfl
      | 4, _ => rfl
      | 5, _ => rfl
    rw [this]; exact .inl rfl
  · cases e
  · have hx : x ∈ List.replicate 8 (A.tup [.int 0, .int 0, .int 0, .int 0]) := hx
    rw [(List.mem_replicate.mp hx).2]
    refine ⟨_, rfl, rfl, fun u hu => ?_⟩
    simp only [List.mem_cons, List.not_mem_nil, or_false] at hu
    rcases hu with rfl | rfl | rfl | rfl <;> exact V3.int 0
end
end Ra19P
/-! RaV19: the law's driver. -/
namespace Ra19P
open RA RaP RaM L2
open PySem (PyData)
open Ra19 (a_law a_law_driver a_law_begin a_law_next a_law_describe a_law_wish a_law_taken a_law_moved a_law_behind)
def DS0 : AY := yAsg (xOp aMod (xVar 2) (xC (.int 4))) (gN 3)
def DS1 : AY := yAsg (xOp aIx (xTup (xCons (xC (.str "read")) (xCons (xC (.str "write")) (xNil)))) (xCall a_law_next (xCons (xVar 0) (xCons (xC (.int 2)) (xNil))))) (gN 4)
def DS2 : AY := yAsg (xOp aIx (xTup (xCons (xC (.str "w")) (xCons (xC (.str "r")) (xNil)))) (xCall bInt (xCons (xOp aEq (xVar 4) (xC (.str "write"))) (xNil)))) (gN 5)
def DS3 : AY := yFor (iaR1 (xCons (xC (.int 4)) (xNil))) (gN 6) (yDrop (xCall a_law_driver (xCons (xVar 1) (xCons (xTup (xCons (xC (.str "write")) (xCons (xCall a_frame_cell (xCons (xC (.int 0)) (xCons (xOp aAdd (xC (.int 2)) (xVar 3)) (xCons (xVar 6) (xNil))))) (xCons (xOp aSub (xCall a_law_next (xCons (xVar 0) (xCons (xC (.int 90)) (xNil)))) (xC (.int 9))) (xNil))))) (xNil)))))
def DS4 : AY := yDrop (xCall a_law_driver (xCons (xVar 1) (xCons (xTup (xCons (xC (.str "write")) (xCons (xCall a_table_word (xCons (xC (.int 0)) (xCons (xOp aAdd (xC (.int 2)) (xVar 3)) (xNil)))) (xCons (xTup (xCons (xOp aAdd (xC (.int 2)) (xVar 3)) (xCons (xVar 5) (xNil)))) (xNil))))) (xNil))))
def DS5 : AY := yDrop (xCall a_law_driver (xCons (xVar 1) (xCons (xTup (xCons (xC (.str "command")) (xCons (xOp aAdd (xC (.int 2)) (xVar 3)) (xNil)))) (xNil))))
def DS6 : AY := yDrop (xMeth "Memory" "access" a_Memory_access (xVar 1) (xCons (xTup (xCons (xC (.str "guard")) (xCons (xC (.int 0)) (xNil)))) (xCons (xTup (xCons (xC (.str "drop")) (xNil))) (xNil))))
def DS7 : AY := yAsg (xTup (xCons (xVar 3) (xCons (xVar 4) (xCons (xCall a_law_next (xCons (xVar 0) (xCons (xC (.int 8)) (xNil)))) (xCons (xOp aSub (xC (.int 1)) (xOp aMod (xOp aDiv (xVar 2) (xC (.int 4))) (xC (.int 2)))) (xCons (xVar 2) (xNil))))))) (gN 7)
def DS8 : AY := yDrop (xCall a_law_driver (xCons (xVar 1) (xCons (xTup (xCons (xC (.str "write")) (xCons (xCall a_frame_cell (xCons (xC (.int 0)) (xCons (xC (.int 0)) (xCons (xOp aMod (xVar 2) (xC (.int 4))) (xNil))))) (xCons (xVar 7) (xNil))))) (xNil))))
theorem desc_eq : a_law_describe = fnA 3 5 (ySeq DS0 (ySeq DS1 (ySeq DS2 (ySeq DS3 (ySeq DS4 (ySeq DS5 (ySeq DS6 (ySeq DS7 DS8)))))))) := rfl
def DF : AY := yDrop (xCall a_law_driver (xCons (xVar 1) (xCons (xTup (xCons (xC (.str "write")) (xCons (xCall a_frame_cell (xCons (xC (.int 0)) (xCons (xOp aAdd (xC (.int 2)) (xVar 3)) (xCons (xVar 6) (xNil))))) (xCons (xOp aSub (xCall a_law_next (xCons (xVar 0) (xCons (xC (.int 90)) (xNil)))) (xC (.int 9))) (xNil))))) (xNil))))
structure TC (S : Sto) (f : RaM.MR → Nat) (M : Mem) (N m t r : Nat) (ns : List Int) (L : List (Nat × AO)) : Prop where
  ex : ∃ pos rest seed : Int, 0 ≤ pos ∧ C S f M N m ((t, tpO r pos rest seed) :: (r, .lst (ns.map .int)) :: L)
section
variable {S : Sto} {f : RaM.MR → Nat} {M : Mem} {N m t r : Nat} {ns : List Int} {L : List (Nat × AO)}
theorem TC.mono (h : TC S f M N m t r ns L) {K : Nat} (hK : N ≤ K) : TC S f M K m t r ns L := by
  obtain ⟨a, b, c, h0, h⟩ := h.ex
  exact ⟨a, b, c, h0, h.mono hK⟩
theorem nx_d (h : TC S f M N m t r ns L) {many : Int} (m0 : 0 < many) (m1 : many < 1000) : ∃ (v : Int) (S' : Sto), a_law_next [.ref t, .int many] S = .ok (.int v) S' ∧ 0 ≤ v ∧ v < many ∧ TC S' f M N m t r ns L := by
  obtain ⟨pos, rest, seed, h0, h⟩ := h.ex
  have hr : S[r]? = some (.lst (ns.map .int)) := h.has.at_ (r, .lst (ns.map .int)) (by simp)
  have hne : t ≠ r := fun e => by
    have := h.has.nd
    subst e
    simp at this
  obtain ⟨v, pos', rest', seed', e, v0, v1, p0⟩ := next_d h.has.hd hr hne h0 m0 m1
  exact ⟨v, _, e, v0, v1, pos', rest', seed', p0, h.set _⟩
theorem drv_d (h : TC S f M N m t r ns L) (hN : N < 900) {q : Rq} (hm : may .drv false q) : ∃ (S' : Sto) (f' : RaM.MR → Nat), a_law_driver [.ref m, q.a] S = .ok .non S' ∧ TC S' f' (acc M .drv false q) (N + 1) m t r ns L := by
  obtain ⟨pos, rest, seed, h0, h⟩ := h.ex
  obtain ⟨S', f', e, hC⟩ := h.acc hN hm
  refine ⟨S', f', ?_, pos, rest, seed, h0, hC⟩
  have rc := h.recv "access" (by decide)
  simp only [actA, Who.s] at e
  generalize q.a = qa at *
  have hd0 : di false = 0 := rfl
  rw [hd0] at e
  simp [a_law_driver, fnA_d, rc, e]
theorem grd_d (h : TC S f M N m t r ns L) (hN : N < 900) (as : Slo) (h1 : as[1]? = some (some (.ref m))) : ∃ (S' : Sto) (f' : RaM.MR → Nat), DS6 as S = .nx as S' ∧ TC S' f' (acc M .grd false .drop) (N + 1) m t r ns L := by
  obtain ⟨pos, rest, seed, h0, h⟩ := h.ex
  obtain ⟨S', f', e, hC⟩ := h.acc hN (w := .grd) (d := false) (q := .drop) rfl
  refine ⟨S', f', ?_, pos, rest, seed, h0, hC⟩
  have rc := h.recv "access" (by decide)
  simp only [actA, Who.s, Rq.a, Rq.l] at e
  have hd0 : di false = 0 := rfl
  rw [hd0] at e
  simp [DS6, h1, rc, e]
/-- a write of the driver -/
theorem wr_d (h : TC S f M N m t r ns L) (hM : MG M) (hN : N < 900) {c : Int} {v : A} (c0 : 0 ≤ c) (hc : c ≤ 23 ∨ 48 ≤ c ∧ c ≤ 51 ∨ 56 ≤ c ∧ c ≤ 61) (hv : V3 v) (h1 : c ≤ 3 → isEnt v) (h2 : c = 49 → ∃ x, v = .int x) (h3 : 56 ≤ c → wdP (c - 56) v) :
    ∃ (S' : Sto) (f' : RaM.MR → Nat) (M' : Mem), a_law_driver [.ref m, .tup [.str "write", .int c, v]] S = .ok .non S' ∧ TC S' f' M' (N + 1) m t r ns L ∧ MG M' := by
  have hm : may .drv false (.wr c v) := ⟨c0, by omega, .inl ⟨rfl, by
    have hd0 : di false = 0 := rfl
    rw [hd0]
    simp [ofDrv]
    omega⟩, hv.1⟩
  obtain ⟨S', f', e, hT⟩ := drv_d h hN hm
  refine ⟨S', f', _, e, hT, MG.acc _ _ _ (hM.set c.toNat v hv (fun z => h1 (by omega)) (fun z => h2 (by omega)) fun p hp z => ?_)⟩
  have := h3 (by omega)
  rw [show c - 56 = (p : Int) by omega] at this
  exact this
theorem begin_d (h : TC S f M N m t r ns L) (hM : MG M) (hN : N < 800) : ∃ (S' : Sto) (f' : RaM.MR → Nat) (M' : Mem), a_law_begin [.ref m] S = .ok .non S' ∧ TC S' f' M' (N + 2) m t r ns L ∧ MG M' := by
  obtain ⟨S1, f1, M1, e1, h1, g1⟩ := wr_d h hM (by omega) (c := 56) (v := .tup [.int 0, .str "r"]) (by decide) (by omega) (V3.word _ _) (fun z => by omega) (fun z => by omega) (fun _ => .inr ⟨_, rfl⟩)
  obtain ⟨S2, f2, M2, e2, h2, g2⟩ := wr_d h1 g1 (by omega) (c := 57) (v := .tup [.int 1, .str "w"]) (by decide) (by omega) (V3.word _ _) (fun z => by omega) (fun z => by omega) (fun _ => .inr ⟨_, rfl⟩)
  refine ⟨S2, f2, M2, ?_, h2, g2⟩
  simp [a_law_begin, fnA_d, e1, e2]
/-- four cells of a buffer -/
theorem ds3_d (h : TC S f M N m t r ns L) (hM : MG M) (hN : N < 800) {k tg : Int} (t0 : 0 ≤ tg) (t3 : tg ≤ 3) (kd rt : A) :
    ∃ (S' : Sto) (f' : RaM.MR → Nat) (M' : Mem) (a6 : Option A), DS3 [some (.ref t), some (.ref m), some (.int k), some (.int tg), some kd, some rt, none, none] S = .nx [some (.ref t), some (.ref m), some (.int k), some (.int tg), some kd, some rt, a6, none] S' ∧ TC S' f' M' (N + 4) m t r ns L ∧ MG M' := by
  obtain ⟨as', S', p1, a6, f', M', rfl, p2, p3⟩ := for_r1 (fs := xCons (xC (.int 4)) xNil) (j := 6) (m := 4) (S := S) (S1 := S) (as := [some (.ref t), some (.ref m), some (.int k), some (.int tg), some kd, some rt, none, none]) (f := DF)
    (fun i as S => ∃ a6 f' M', as = [some (.ref t), some (.ref m), some (.int k), some (.int tg), some kd, some rt, a6, none] ∧ TC S f' M' (N + i) m t r ns L ∧ MG M')
    (by simp) (by omega) ⟨none, f, M, rfl, h, hM⟩ fun i as S hi ⟨a6, f1, M1, e, h1, g1⟩ => by
      have hi : i < 4 := hi
      subst e
      obtain ⟨v, S2, e2, v0, v1, h2⟩ := nx_d h1 (many := 90) (by decide) (by decide)
      obtain ⟨S3, f3, M3, e3, h3, g3⟩ := wr_d h2 g1 (by omega) (c := 24 * 0 + 4 * (2 + tg) + (i : Int)) (v := .int (v - 9)) (by omega) (by omega) (V3.int _) (fun z => by omega) (fun z => ⟨_, rfl⟩) (fun z => by omega)
      refine ⟨[some (.ref t), some (.ref m), some (.int k), some (.int tg), some kd, some rt, some (.int i), none], S3, .inl ?_, _, f3, M3, rfl, h3, g3⟩
      generalize hc : 24 * 0 + 4 * (2 + tg) + (i : Int) = c at e3
      simp only [DF, yDrop_d, xCall_d, xCons_d, xVar_d, xTup_d, xC_d, bnd_ok, xOp_d, aAdd_i, frame_cell_d, xNil_d, List.set, List.getElem?_cons_zero, List.getElem?_cons_succ, slot_s, Option.elim, e2, hc]
      simp [e2, e3, hc]
  exact ⟨S', f', M', a6, p1, p2, p3⟩
theorem describe_d (h : TC S f M N m t r ns L) (hM : MG M) (hN : N < 800) {k : Int} (k0 : 0 ≤ k) (k7 : k ≤ 1000) :
    ∃ (S' : Sto) (f' : RaM.MR → Nat) (M' : Mem), a_law_describe [.ref t, .ref m, .int k] S = .ok .non S' ∧ TC S' f' M' (N + 8) m t r ns L ∧ MG M' := by
  obtain ⟨v1, S1, e1, a0, a1, h1⟩ := nx_d h (many := 2) (by decide) (by decide)
  have t0 := Int.emod_nonneg k (show (4 : Int) ≠ 0 by decide)
  have t4 := Int.emod_lt_of_pos k (show (0 : Int) < 4 by decide)
  have q0 : DS0 [some (.ref t), some (.ref m), some (.int k), none, none, none, none, none] S = .nx [some (.ref t), some (.ref m), some (.int k), some (.int (k % 4)), none, none, none, none] S := by simp [DS0]
  have q1 : ∃ wr : Bool, DS1 [some (.ref t), some (.ref m), some (.int k), some (.int (k % 4)), none, none, none, none] S = .nx [some (.ref t), some (.ref m), some (.int k), some (.int (k % 4)), some (.str (if wr then "write" else "read")), none, none, none] S1 := by
    rcases (by omega : v1 = 0 ∨ v1 = 1) with rfl | rfl
    · exact ⟨false, by simp [DS1, e1]⟩
    · exact ⟨true, by simp [DS1, e1]⟩
  obtain ⟨wr, q1⟩ := q1
  have q2 : ∃ rt : String, DS2 [some (.ref t), some (.ref m), some (.int k), some (.int (k % 4)), some (.str (if wr then "write" else "read")), none, none, none] S1 = .nx [some (.ref t), some (.ref m), some (.int k), some (.int (k % 4)), some (.str (if wr then "write" else "read")), some (.str rt), none, none] S1 := by
    cases wr
    · exact ⟨"w", by simp [DS2]⟩
    · exact ⟨"r", by simp [DS2]⟩
  obtain ⟨rt, q2⟩ := q2
  obtain ⟨S3, f3, M3, a6, q3, h3, g3⟩ := ds3_d h1 hM hN (k := k) t0 (by omega) (.str (if wr then "write" else "read")) (.str rt)
  obtain ⟨S4, f4, M4, e4, h4, g4⟩ := wr_d h3 g3 (by omega) (c := 56 + 6 * 0 + (2 + k % 4)) (v := .tup [.int (2 + k % 4), .str rt]) (by omega) (by omega) (V3.word _ _) (fun z => by omega) (fun z => by omega) (fun _ => .inr ⟨_, by rw [show 56 + 6 * 0 + (2 + k % 4) - 56 = 2 + k % 4 by omega]⟩)
  obtain ⟨S5, f5, e5, h5⟩ := drv_d h4 (by omega) (q := .cmd (2 + k % 4)) ⟨rfl, by omega, by omega⟩
  have g5 : MG (acc M4 .drv false (.cmd (2 + k % 4))) := MG.acc _ _ _ (mg_cmd g4 _)
  obtain ⟨S6, f6, q6, h6⟩ := grd_d h5 (by omega) [some (.ref t), some (.ref m), some (.int k), some (.int (k % 4)), some (.str (if wr then "write" else "read")), some (.str rt), a6, none] rfl
  have g6 : MG (acc (acc M4 .drv false (.cmd (2 + k % 4))) .grd false .drop) := MG.acc _ _ _ (mg_drop g5)
  obtain ⟨b, S7, e7, b0, b1, h7⟩ := nx_d h6 (many := 8) (by decide) (by decide)
  have ej : (Jb.mk (k % 4) wr b (1 - k / 4 % 2) k [] 0 false).ent = .tup [.int (k % 4), .str (if wr then "write" else "read"), .int b, .int (1 - k / 4 % 2), .int k] := rfl
  obtain ⟨S8, f8, M8, e8, h8, g8⟩ := wr_d h7 g6 (by omega) (c := k % 4) (v := (Jb.mk (k % 4) wr b (1 - k / 4 % 2) k [] 0 false).ent) t0 (by omega) (V3.ent _) (fun _ => .inr ⟨_, rfl, t0, by show k % 4 ≤ 3; omega, b0, by show b ≤ 7; omega, k0, by show 0 ≤ 1 - k / 4 % 2; omega, by show 1 - k / 4 % 2 ≤ 1; omega⟩) (fun z => by omega) (fun z => by omega)
  refine ⟨S8, f8, M8, ?_, h8.mono (by omega), g8⟩
  rw [ej] at e8
  simp only [Rq.a, Rq.l] at e5
  have q4 : DS4 [some (.ref t), some (.ref m), some (.int k), some (.int (k % 4)), some (.str (if wr then "write" else "read")), some (.str rt), a6, none] S3 = .nx [some (.ref t), some (.ref m), some (.int k), some (.int (k % 4)), some (.str (if wr then "write" else "read")), some (.str rt), a6, none] S4 := by
    generalize hc : 56 + 6 * 0 + (2 + k % 4) = c at e4
    generalize k % 4 = tg at *
    simp only [DS4, yDrop_d, xCall_d, xCons_d, xVar_d, xTup_d, xC_d, bnd_ok, xOp_d, aAdd_i, table_word_d, xNil_d, List.getElem?_cons_zero, List.getElem?_cons_succ, slot_s, Option.elim, hc]
    simp [e4]
  have q5 : DS5 [some (.ref t), some (.ref m), some (.int k), some (.int (k % 4)), some (.str (if wr then "write" else "read")), some (.str rt), a6, none] S4 = .nx [some (.ref t), some (.ref m), some (.int k), some (.int (k % 4)), some (.str (if wr then "write" else "read")), some (.str rt), a6, none] S5 := by
    simp [DS5, e5]
  have q7 : DS7 [some (.ref t), some (.ref m), some (.int k), some (.int (k % 4)), some (.str (if wr then "write" else "read")), some (.str rt), a6, none] S6 = .nx [some (.ref t), some (.ref m), some (.int k), some (.int (k % 4)), some (.str (if wr then "write" else "read")), some (.str rt), a6, some (.tup [.int (k % 4), .str (if wr then "write" else "read"), .int b, .int (1 - k / 4 % 2), .int k])] S7 := by
    generalize (if wr = true then "write" else "read") = kd at *
    simp [DS7, e7]
  have q8 : DS8 [some (.ref t), some (.ref m), some (.int k), some (.int (k % 4)), some (.str (if wr then "write" else "read")), some (.str rt), a6, some (.tup [.int (k % 4), .str (if wr then "write" else "read"), .int b, .int (1 - k / 4 % 2), .int k])] S7 = .nx [some (.ref t), some (.ref m), some (.int k), some (.int (k % 4)), some (.str (if wr then "write" else "read")), some (.str rt), a6, some (.tup [.int (k % 4), .str (if wr then "write" else "read"), .int b, .int (1 - k / 4 % 2), .int k])] S8 := by
    generalize A.tup [.int (k % 4), .str (if wr then "write" else "read"), .int b, .int (1 - k / 4 % 2), .int k] = en at *
    simp [DS8, e8]
  rw [desc_eq, fn3]
  show (ySeq DS0 _ [some (.ref t), some (.ref m), some (.int k), none, none, none, none, none] S).end = _
  rw [ySeq_d, q0, thn_nx, ySeq_d, q1, thn_nx, ySeq_d, q2, thn_nx, ySeq_d, q3, thn_nx, ySeq_d, q4, thn_nx, ySeq_d, q5, thn_nx, ySeq_d, q6, thn_nx, ySeq_d, q7, thn_nx, q8]
  rfl
end
end Ra19P
/-! RaW19: a turn of the law. -/
namespace Ra19P
open RA RaP RaM L2
open PySem (PyData)
open Ra19 (a_law a_law_driver a_law_begin a_law_next a_law_describe a_law_wish a_law_taken a_law_moved a_law_behind)
def A0 : AY := yAsg (xLst (xCons (xCall bList (xCons (xVar 0) (xNil))) (xCons (xC (.int 0)) (xCons (xC (.int 0)) (xCons (xC (.int 5)) (xNil)))))) (gN 1)
def A1 : AY := yAsg (xMake0 "Memory" a_Memory_init) (gN 2)
def A2 : AY := yAsg (xMake "Device" a_Device_init (xCons (xVar 2) (xCons (xC (.int 0)) (xNil)))) (gN 3)
def A3 : AY := yDrop (xCall a_law_begin (xCons (xVar 2) (xNil)))
def A4 : AY := yAsg (xDisp [(.inr "generation", xC (.int 0)), (.inr "taken", xC (.int 0)), (.inr "done", xC (.int 0)), (.inr "jobs", xLst (xNil)), (.inr "pending", xLst (xNil))]) (gN 4)
def A5 : AY := yAsg (xC (.int 0)) (gN 5)
def A7 : AY := yRet (xC (.bl true))
def RNG : AA := xCons (xOp aIx (xTup (xCons (xC (.int 10)) (xCons (xC (.int 30)) (xCons (xC (.int 90)) (xNil))))) (xCall a_law_next (xCons (xVar 1) (xCons (xC (.int 3)) (xNil))))) (xNil)
def B0 : AY := yAsg (xCall a_law_next (xCons (xVar 1) (xCons (xC (.int 12)) (xNil)))) (gN 7)
def B1 : AY := yIf (xAndT (xT (xOp aLt (xVar 7) (xC (.int 3)))) (xAndT (xT (xOp aLt (xVar 5) (xC (.int 8)))) (xT (xOp aLt (xVar 5) (xOp aAdd (xOp aGet (xVar 4) (xC (.str "done"))) (xC (.int 3))))))) (ySeq (yDrop (xCall a_law_describe (xCons (xVar 1) (xCons (xVar 2) (xCons (xVar 5) (xNil)))))) (yAsg (xOp aAdd (xVar 5) (xC (.int 1))) (gN 5))) (yNext)
def B2 : AY := yIf (xAndT (xT (xOp aEq (xVar 7) (xC (.int 3)))) (xT (xOp aEq (xCall a_law_next (xCons (xVar 1) (xCons (xC (.int 4)) (xNil)))) (xC (.int 0))))) (yDrop (xCall a_law_driver (xCons (xVar 2) (xCons (xTup (xCons (xC (.str "write")) (xCons (xCall a_table_word (xCons (xC (.int 0)) (xCons (xOp aAdd (xC (.int 2)) (xCall a_law_next (xCons (xVar 1) (xCons (xC (.int 4)) (xNil))))) (xNil)))) (xCons (xC .non) (xNil))))) (xNil))))) (yNext)
def B3 : AY := yIf (xAndT (xT (xOp aEq (xVar 7) (xC (.int 4)))) (xT (xOp aEq (xCall a_law_next (xCons (xVar 1) (xCons (xC (.int 12)) (xNil)))) (xC (.int 0))))) (yDrop (xCall a_law_driver (xCons (xVar 2) (xCons (xTup (xCons (xC (.str "write")) (xCons (xCall a_reset (xCons (xC (.int 0)) (xNil))) (xCons (xOp aAdd (xOp aGet (xVar 4) (xC (.str "generation"))) (xC (.int 1))) (xNil))))) (xNil))))) (yNext)
def B4 : AY := yAsg (xCall a_law_next (xCons (xVar 1) (xCons (xC (.int 16)) (xNil)))) (gN 8)
def B5 : AY := yAsg (xCall a_law_wish (xCons (xVar 4) (xCons (xVar 8) (xNil)))) (gN 9)
def B6 : AY := yAsg (xFld (xVar 2) "count") (gN 10)
def B7 : AY := yIf (xOrT (xT (xOp aNotB (xMeth "Device" "step" a_Device_step (xVar 3) (xCons (xVar 8) (xNil))) (xC (.bl true)))) (xT (xOp aNe (xFld (xVar 2) "count") (xOp aAdd (xVar 10) (xC (.int 1)))))) (yRet (xC (.bl false))) (yNext)
def B8 : AY := yAsg (xOp aIx (xMeth0 "Memory" "log" a_Memory_log (xVar 2)) (xNeg (xC (.int 1)))) (gT 4 (gConsA (gN 11) (gConsA (gN 12) (gConsA (gN 13) (gConsA (gN 14) (gNilA))))))
def B9 : AY := yIf (xOrT (xT (xOp aNe (xVar 12) (xTup (xCons (xC (.str "device")) (xCons (xC (.int 0)) (xNil)))))) (xT (xOp aNe (xVar 13) (xVar 9)))) (yRet (xC (.bl false))) (yNext)
def B10 : AY := yDrop (xCall a_law_behind (xCons (xVar 4) (xCons (xVar 8) (xCons (xVar 13) (xCons (xVar 14) (xNil))))))
def B11 : AY := yIf (xT (xOp aNe (xMeth0 "Device" "jobs" a_Device_jobs (xVar 3)) (xLc (iaL (xOp aGet (xVar 4) (xC (.str "jobs")))) (gN 15) (xYes) (xOp aGet (xVar 15) (xC (.str "entry"))) [15]))) (yRet (xC (.bl false))) (yNext)
def B12 : AY := yIf (xT (xOp aNe (xTup (xCons (xFld (xVar 3) "generation") (xCons (xFld (xVar 3) "taken") (xCons (xFld (xVar 3) "completed") (xNil))))) (xTup (xCons (xOp aGet (xVar 4) (xC (.str "generation"))) (xCons (xOp aGet (xVar 4) (xC (.str "taken"))) (xCons (xOp aGet (xVar 4) (xC (.str "done"))) (xNil))))))) (yRet (xC (.bl false))) (yNext)
def MB : AY := ySeq B0 (ySeq B1 (ySeq B2 (ySeq B3 (ySeq B4 (ySeq B5 (ySeq B6 (ySeq B7 (ySeq B8 (ySeq B9 (ySeq B10 (ySeq B11 B12)))))))))))
theorem law_eq : a_law = fnA 1 15 (ySeq A0 (ySeq A1 (ySeq A2 (ySeq A3 (ySeq A4 (ySeq A5 (ySeq (yFor (iaR1 RNG) (gN 6) MB) A7))))))) := rfl
abbrev tl (ns : List Int) : List (Nat × AO) → List (Nat × AO) := fun L => L
structure K (S : Sto) (f : RaM.MR → Nat) (M : Mem) (N dv ow : Nat) (ns : List Int) (v o : Dv) (D : Dd) : Prop where
  tc : TC S f M N 2 1 0 ns (v.objs 2 false ++ wo o)
  mg : MG M
  vi : v.id = dv
  oi : o.id = ow
  vD : v.is D
  oD : o.is D
  gd : Good false D
abbrev sl (ns : List Int) (dv ow : Nat) (k : Int) (a6 a7 a8 a9 a10 a11 a12 a13 a14 a15 : Option A) : Slo := [some (.seq (ns.map .int)), some (.ref 1), some (.ref 2), some (.ref dv), some (.ref ow), some (.int k), a6, a7, a8, a9, a10, a11, a12, a13, a14, a15]
section
variable {S : Sto} {f : RaM.MR → Nat} {M : Mem} {N dv ow : Nat} {ns : List Int} {v o : Dv} {D : Dd} {k : Int} {a6 a7 a8 a9 a10 a11 a12 a13 a14 a15 : Option A}
theorem K.tcTo (h : K S f M N dv ow ns v o D) {S' : Sto} {f' : RaM.MR → Nat} {M' : Mem} {N' : Nat} (t : TC S' f' M' N' 2 1 0 ns (v.objs 2 false ++ wo o)) (g : MG M') : K S' f' M' N' dv ow ns v o D := ⟨t, g, h.vi, h.oi, h.vD, h.oD, h.gd⟩
/-- the device ahead -/
theorem K.cv (h : K S f M N dv ow ns v o D) : ∃ pos rest seed : Int, 0 ≤ pos ∧ C S f M N 2 (v.objs 2 false ++ ((1, tpO 0 pos rest seed) :: (0, .lst (ns.map .int)) :: wo o)) := by
  obtain ⟨a, b, c, h0, h⟩ := h.tc.ex
  exact ⟨a, b, c, h0, h.perm (List.perm_append_comm_assoc [(1, tpO 0 a b c), (0, AO.lst (ns.map .int))] (v.objs 2 false) (wo o))⟩
theorem K.co (h : K S f M N dv ow ns v o D) : ∃ pos rest seed : Int, 0 ≤ pos ∧ C S f M N 2 (wo o ++ ((1, tpO 0 pos rest seed) :: (0, .lst (ns.map .int)) :: v.objs 2 false)) := by
  obtain ⟨a, b, c, h0, h⟩ := h.tc.ex
  exact ⟨a, b, c, h0, h.perm (List.perm_append_comm (l₁ := (1, tpO 0 a b c) :: (0, AO.lst (ns.map .int)) :: v.objs 2 false) (l₂ := wo o))⟩
theorem K.app (h : K S f M N dv ow ns v o D) (T : Sto) : K (S ++ T) f M N dv ow ns v o D := by
  obtain ⟨a, b, c, h0, hc⟩ := h.tc.ex
  exact h.tcTo ⟨a, b, c, h0, hc.app T⟩ h.mg
theorem tc_v {pos rest seed : Int} (h0 : 0 ≤ pos) (h : C S f M N 2 (v.objs 2 false ++ ((1, tpO 0 pos rest seed) :: (0, .lst (ns.map .int)) :: wo o))) : TC S f M N 2 1 0 ns (v.objs 2 false ++ wo o) :=
  ⟨pos, rest, seed, h0, h.perm (List.perm_append_comm_assoc (v.objs 2 false) [(1, tpO 0 pos rest seed), (0, AO.lst (ns.map .int))] (wo o))⟩
theorem tc_o {pos rest seed : Int} (h0 : 0 ≤ pos) (h : C S f M N 2 (wo o ++ ((1, tpO 0 pos rest seed) :: (0, .lst (ns.map .int)) :: v.objs 2 false))) : TC S f M N 2 1 0 ns (v.objs 2 false ++ wo o) :=
  ⟨pos, rest, seed, h0, h.perm (List.perm_append_comm (l₁ := wo o) (l₂ := (1, tpO 0 pos rest seed) :: (0, AO.lst (ns.map .int)) :: v.objs 2 false))⟩
theorem K.own (h : K S f M N dv ow ns v o D) : S[ow]? = some (.dK false (owF o)) := by
  obtain ⟨a, b, c, h0, hc⟩ := h.co
  rw [← h.oi]
  exact o_at hc
theorem K.dev (h : K S f M N dv ow ns v o D) : S[dv]? = some (.ins "Device" (devF v 2 false)) := by
  obtain ⟨a, b, c, h0, hc⟩ := h.cv
  rw [← h.vi]
  exact hd_of hc
theorem K.m (h : K S f M N dv ow ns v o D) : S[2]? = some (.ins "Memory" (memF f M.count)) ∧ S[f .r]? = some (.lst M.rows) ∧ M.rows.length ≤ N := by
  obtain ⟨a, b, c, h0, hc⟩ := h.tc.ex
  have := hc.mem.m
  rw [hc.mm] at this
  exact ⟨this, hc.mem.r, hc.wf.rl⟩
theorem K.nx (h : K S f M N dv ow ns v o D) {many : Int} (m0 : 0 < many) (m1 : many < 1000) : ∃ (z : Int) (S' : Sto), a_law_next [.ref 1, .int many] S = .ok (.int z) S' ∧ 0 ≤ z ∧ z < many ∧ K S' f M N dv ow ns v o D := by
  obtain ⟨z, S', e, z0, z1, t⟩ := nx_d h.tc m0 m1
  exact ⟨z, S', e, z0, z1, h.tcTo t h.mg⟩
theorem b1_d (h : K S f M N dv ow ns v o D) (hN : N < 800) (k0 : 0 ≤ k) (k8 : k ≤ 8) (z : Int) :
    ∃ (S' : Sto) (f' : RaM.MR → Nat) (M' : Mem) (N' : Nat) (k' : Int), B1 (sl ns dv ow k a6 (some (.int z)) a8 a9 a10 a11 a12 a13 a14 a15) S = .nx (sl ns dv ow k' a6 (some (.int z)) a8 a9 a10 a11 a12 a13 a14 a15) S' ∧
      K S' f' M' N' dv ow ns v o D ∧ 0 ≤ k' ∧ k' ≤ 8 ∧ (N' : Int) + 8 * k ≤ N + 8 * k' := by
  have a0 := h.own
  simp only [owF] at a0
  by_cases c1 : z < 3
  · by_cases c2 : k < 8
    · by_cases c3 : k < o.done + 3
      · obtain ⟨S', f', M', e, t, g⟩ := describe_d h.tc h.mg hN k0 (by omega)
        refine ⟨S', f', M', N + 8, k + 1, ?_, h.tcTo t g, by omega, by omega, by omega⟩
        simp [B1, sl, c1, c2, aGet_s a0, alk, c3, e]
      · refine ⟨S, f, M, N, k, ?_, h, k0, k8, by omega⟩
        simp [B1, sl, c1, c2, aGet_s a0, alk, c3]
    · refine ⟨S, f, M, N, k, ?_, h, k0, k8, by omega⟩
      simp [B1, sl, c1, c2]
  · refine ⟨S, f, M, N, k, ?_, h, k0, k8, by omega⟩
    simp [B1, sl, c1]
theorem b2_d (h : K S f M N dv ow ns v o D) (hN : N < 850) (z : Int) :
    ∃ (S' : Sto) (f' : RaM.MR → Nat) (M' : Mem) (N' : Nat), B2 (sl ns dv ow k a6 (some (.int z)) a8 a9 a10 a11 a12 a13 a14 a15) S = .nx (sl ns dv ow k a6 (some (.int z)) a8 a9 a10 a11 a12 a13 a14 a15) S' ∧
      K S' f' M' N' dv ow ns v o D ∧ N' ≤ N + 1 := by
  by_cases c1 : z = 3
  · obtain ⟨y, S1, e1, y0, y1, h1⟩ := h.nx (many := 4) (by decide) (by decide)
    by_cases c2 : y = 0
    · obtain ⟨x, S2, e2, x0, x1, h2⟩ := h1.nx (many := 4) (by decide) (by decide)
      obtain ⟨S3, f3, M3, e3, t3, g3⟩ := wr_d h2.tc h2.mg (by omega) (c := 56 + 6 * 0 + (2 + x)) (v := .non) (by omega) (by omega) V3.non (fun z => .inl rfl) (fun z => by omega) (fun _ => .inl rfl)
      refine ⟨S3, f3, M3, N + 1, ?_, h2.tcTo t3 g3, by omega⟩
      generalize hc : 56 + 6 * 0 + (2 + x) = c at e3
      simp only [B2, yIf_d, xAndT_d, xT_d, xOp_d, xVar_d, sl, List.getElem?_cons_zero, List.getElem?_cons_succ, slot_s, Option.elim, bnd_ok, xC_d, aEq_i, aB_d, sbd_ok, c1, beq_self_eq_true, if_true, xCall_d, xCons_d, xNil_d, e1, c2, yDrop_d, xTup_d, e2, aAdd_i, table_word_d, hc]
      simp [e3]
    · refine ⟨S1, f, M, N, ?_, h1, by omega⟩
      simp [B2, sl, c1, e1, c2]
  · refine ⟨S, f, M, N, ?_, h, by omega⟩
    simp [B2, sl, c1]
theorem b3_d (h : K S f M N dv ow ns v o D) (hN : N < 850) (z : Int) :
    ∃ (S' : Sto) (f' : RaM.MR → Nat) (M' : Mem) (N' : Nat), B3 (sl ns dv ow k a6 (some (.int z)) a8 a9 a10 a11 a12 a13 a14 a15) S = .nx (sl ns dv ow k a6 (some (.int z)) a8 a9 a10 a11 a12 a13 a14 a15) S' ∧
      K S' f' M' N' dv ow ns v o D ∧ N' ≤ N + 1 := by
  by_cases c1 : z = 4
  · obtain ⟨y, S1, e1, y0, y1, h1⟩ := h.nx (many := 12) (by decide) (by decide)
    by_cases c2 : y = 0
    · obtain ⟨S3, f3, M3, e3, t3, g3⟩ := wr_d h1.tc h1.mg (by omega) (c := 49) (v := .int (D.gen + 1)) (by omega) (by omega) (V3.int _) (fun z => by omega) (fun z => ⟨_, rfl⟩) (fun z => by omega)
      refine ⟨S3, f3, M3, N + 1, ?_, h1.tcTo t3 g3, by omega⟩
      have a0 := h1.own
      simp only [owF, h1.oD.1] at a0
      simp [B3, sl, c1, e1, c2, aGet_s a0, alk, e3]
    · refine ⟨S1, f, M, N, ?_, h1, by omega⟩
      simp [B3, sl, c1, e1, c2]
  · refine ⟨S, f, M, N, ?_, h, by omega⟩
    simp [B3, sl, c1]
/-- the request of a step is plain -/
theorem stp_dq {c : Int} {q : Rq} {res : A} {D' : Dd} (hG : Good false D) (hs : Stp false D c q res D') : Dq 5 q.a := by
  have T : ∀ xs : List A, (∀ x ∈ xs, Dq 4 x) → Dq 5 (.tup xs) := fun xs h => Dq.tup h
  have i4 : ∀ i : Int, Dq 4 (.int i) := fun i => (Dq.int i).mono (by decide)
  have s4 : ∀ s : String, Dq 4 (.str s) := fun s => (Dq.str s).mono (by decide)
  have v4 : ∀ x : A, V3 x → Dq 4 x := fun x h => h.2.mono (by decide)
  cases hs with
  | pend q res hp =>
    rcases hG.pend with z | ⟨k, x, z, k0, k1⟩
    · rw [z] at hp; cases hp
    · rw [z] at hp
      rw [← (List.cons.inj hp).1]
      refine T _ fun y hy => ?_
      simp only [Rq.l, List.mem_cons, List.not_mem_nil, or_false] at hy
      rcases hy with rfl | rfl | rfl
      · exact s4 _
      · exact i4 _
      · exact i4 _
  | reset x hp hc =>
    refine T _ fun y hy => ?_
    simp only [Rq.l, List.mem_cons, List.not_mem_nil, or_false] at hy
    rcases hy with rfl | rfl
    · exact s4 _
    · exact i4 _
  | commit X j Y pk hd hw hm =>
    have g := hG.jobs j (by rw [pk.2.2.2.1]; simp)
    refine T _ fun y hy => ?_
    simp only [Rq.l, List.mem_cons, List.not_mem_nil, or_false] at hy
    rcases hy with rfl | rfl | rfl | rfl | rfl
    · exact s4 _
    · exact i4 _
    · exact Dq.tup fun u hu => (g.cd u hu).2
    · exact i4 _
    · exact i4 _
  | fetch X j Y cs pk hd hw h4 hcs =>
    refine T _ fun y hy => ?_
    simp only [Rq.l, List.mem_cons, List.not_mem_nil, or_false] at hy
    rcases hy with rfl | rfl | rfl | rfl
    · exact s4 _
    · exact i4 _
    · exact i4 _
    · exact i4 _
  | write1 X j Y u pk hd hw hm hu =>
    have g := hG.jobs j (by rw [pk.2.2.2.1]; simp)
    have l := g.r1 hw hd
    have m0 := g.m0
    rw [atI_n m0 (by omega)] at hu
    have hv := g.cd _ (List.mem_of_getElem? hu)
    refine T _ fun y hy => ?_
    simp only [Rq.l, List.mem_cons, List.not_mem_nil, or_false] at hy
    rcases hy with rfl | rfl | rfl | rfl
    · exact s4 _
    · exact i4 _
    · exact i4 _
    · exact v4 _ hv
  | write0 X j Y u pk hd hw hm hu =>
    have g := hG.jobs j (by rw [pk.2.2.2.1]; simp)
    have l := g.r1 hw hd
    have m0 := g.m0
    rw [atI_n m0 (by omega)] at hu
    have hv := g.cd _ (List.mem_of_getElem? hu)
    refine T _ fun y hy => ?_
    simp only [Rq.l, List.mem_cons, List.not_mem_nil, or_false] at hy
    rcases hy with rfl | rfl | rfl | rfl
    · exact s4 _
    · exact i4 _
    · exact i4 _
    · exact v4 _ hv
  | comp1 X j Y pk hd hm =>
    refine T _ fun y hy => ?_
    simp only [Rq.l, List.mem_cons, List.not_mem_nil, or_false] at hy
    rcases hy with rfl | rfl | rfl | rfl
    · exact s4 _
    · exact i4 _
    · exact i4 _
    · exact v4 _ (V3.done _ _)
  | comp0 X j Y pk hd hm =>
    refine T _ fun y hy => ?_
    simp only [Rq.l, List.mem_cons, List.not_mem_nil, or_false] at hy
    rcases hy with rfl | rfl | rfl | rfl
    · exact s4 _
    · exact i4 _
    · exact i4 _
    · exact v4 _ (V3.done _ _)
  | _ =>
    refine T _ fun y hy => ?_
    simp only [Rq.l, List.mem_cons, List.not_mem_nil, or_false] at hy
    rcases hy with rfl | rfl | rfl
    · exact s4 _
    · exact i4 _
    · exact i4 _
end
end Ra19P
/-! RaX19: the loop of the law; the law. -/
namespace Ra19P
open RA RaP RaM L2
open PySem (PyData)
open Ra19 (a_law a_law_driver a_law_begin a_law_next a_law_describe a_law_wish a_law_taken a_law_moved a_law_behind)
section
variable {S : Sto} {f : RaM.MR → Nat} {M : Mem} {N dv ow : Nat} {ns : List Int} {v o : Dv} {D D' : Dd} {k : Int} {a6 a7 a8 a9 a10 a11 a12 a13 a14 a15 : Option A} {q : Rq} {res : A} {c : Int}
theorem atI_last {α : Type} (l : List α) (x : α) : atI (l ++ [x]) (-1) = some x := by
  have h0 : ¬ (0 : Int) ≤ -1 := by decide
  simp only [atI, ixN, if_neg h0, List.length_append, List.length_cons, List.length_nil]
  rw [if_pos (by omega)]
  rw [show ((-1 : Int) + ((l.length + (0 + 1) : Nat) : Int)).toNat = l.length by omega]
  simp
theorem step_d (h : K S f M N dv ow ns v o D) (hN : N < 850) (c : Int) :
    ∃ (T : Sto) (q : Rq) (D' : Dd) (S' : Sto) (f' : RaM.MR → Nat) (v' : Dv), a_law_wish [.ref ow, .int c] S = .ok q.a (S ++ T) ∧ Stp false D c q (ex M false q).1 D' ∧ a_Device_step [.ref dv, .int c] (S ++ T) = .ok (.bl true) S' ∧
      TC S' f' (acc M .dev false q) (N + 1) 2 1 0 ns (v'.objs 2 false ++ wo o) ∧ v'.id = dv ∧ v'.is D' ∧ MG (acc M .dev false q) := by
  obtain ⟨p, r, s, h0, hc⟩ := h.cv
  obtain ⟨p2, r2, s2, h02, ho⟩ := h.co
  obtain ⟨q1, D1, S1, f1, v1, st1, _⟩ := dev_step hc h.vD h.gd h.mg.mf (by omega) c
  obtain ⟨T, e1⟩ := wish_d ho h.oD h.gd st1
  obtain ⟨q, D', S', f', v', st, hm, e, hC, hi, hD⟩ := dev_step (hc.app T) h.vD h.gd h.mg.mf (by omega) c
  obtain ⟨T2, e2⟩ := wish_d ho h.oD h.gd st
  rw [e1] at e2
  have ea : q1.a = q.a := by injection e2
  rw [ea, h.oi] at e1
  rw [h.vi] at e
  exact ⟨T, q, D', S', f', v', e1, st, e, tc_v h0 hC, hi.trans h.vi, hD, stp_mg h.mg h.gd st⟩
/-- the descriptors under way -/
theorem own_jobs (h : K S f M N dv ow ns v o D) (as : Slo) (ha : as = sl ns dv ow k a6 a7 a8 a9 a10 a11 a12 a13 a14 a15) :
    xLc (iaL (xOp aGet (xVar 4) (xC (.str "jobs")))) (gN 15) (xYes) (xOp aGet (xVar 15) (xC (.str "entry"))) [15] as S = .ok (.ref S.length) (S ++ [.lst (D.jobs.map fun j => j.ent)]) := by
  subst ha
  obtain ⟨p2, r2, s2, h02, ho⟩ := h.co
  have a0 := h.own
  have hl : o.jobs.length < 1000 := by
    have := h.gd.len
    have e := h.oD.2.2.2.1
    rw [← e, List.length_map] at this
    omega
  have cmp := comp_l (r := o.uw) (xs := o.jobs.map fun r => A.ref r.id) (j := 15) (fe := xOp aGet (xVar 4) (xC (.str "jobs"))) (tt := xYes) (te := xOp aGet (xVar 15) (xC (.str "entry"))) (as := sl ns dv ow k a6 a7 a8 a9 a10 a11 a12 a13 a14 a15) S
    (fun _ => true) (fun i => (o.jobs.getD (i - 0) (Jr.mk 0 0 (Jb.mk 0 false 0 0 0 [] 0 false))).j.ent) (by simp [sl, aGet_s a0, owF, alk]) (j_at ho) (by simpa using Nat.lt_of_lt_of_le hl (by decide)) fun acc0 i x hx => by
      rw [List.getElem?_map] at hx
      cases hz : o.jobs[i]? with
      | none => rw [hz] at hx; cases hx
      | some r =>
        rw [hz] at hx
        cases hx
        have hg : o.jobs.getD (i - 0) (Jr.mk 0 0 (Jb.mk 0 false 0 0 0 [] 0 false)) = r := by rw [Nat.sub_zero, List.getD_eq_getElem?_getD, hz]; rfl
        rw [hg]
        have j1 := (wj_at (ho.app [.lst acc0]) (List.mem_of_getElem? hz)).1
        refine ⟨rfl, fun _ => ?_⟩
        simp [sl, aGet_s j1, ojF, alk]
  have pm := pick_map (fun _ : Jr => true) (fun r : Jr => r.j.ent) (Jr.mk 0 0 (Jb.mk 0 false 0 0 0 [] 0 false)) o.jobs 0
  simp only [List.length_map] at cmp
  rw [pm] at cmp
  rw [cmp, ← h.oD.2.2.2.1, List.filter_eq_self.mpr (fun _ _ => rfl), List.map_map]
  rfl
theorem b5_d (T : Sto) (e : a_law_wish [.ref ow, .int c] S = .ok q.a (S ++ T)) : B5 (sl ns dv ow k a6 a7 (some (.int c)) a9 a10 a11 a12 a13 a14 a15) S = .nx (sl ns dv ow k a6 a7 (some (.int c)) (some q.a) a10 a11 a12 a13 a14 a15) (S ++ T) := by
  generalize q.a = qa at *
  simp [B5, sl, e]
theorem b6_d (h : K S f M N dv ow ns v o D) : B6 (sl ns dv ow k a6 a7 a8 a9 a10 a11 a12 a13 a14 a15) S = .nx (sl ns dv ow k a6 a7 a8 a9 (some (.int M.count)) a11 a12 a13 a14 a15) S := by
  have m0 := h.m.1
  simp [B6, sl, aFld_e m0, memF]
theorem b7_d (h : K S f M N dv ow ns v o D) {S' : Sto} {x : Int} {g : RaM.MR → Nat} (e : a_Device_step [.ref dv, .int c] S = .ok (.bl true) S') (hm : S'[2]? = some (.ins "Memory" (memF g (x + 1)))) :
    B7 (sl ns dv ow k a6 a7 (some (.int c)) a9 (some (.int x)) a11 a12 a13 a14 a15) S = .nx (sl ns dv ow k a6 a7 (some (.int c)) a9 (some (.int x)) a11 a12 a13 a14 a15) S' := by
  have rc : aRecv "Device" "step" (.ref dv) S = .ok (.ref dv) S := by rw [aRecv_e h.dev]; simp [devF]
  simp [B7, sl, rc, e, aFld_e hm, memF]
theorem b8_d {g : RaM.MR → Nat} {x : Int} {rows : List A} {w1 w2 w3 w4 : A} (hm : S[2]? = some (.ins "Memory" (memF g x))) (hr : S[g .r]? = some (.lst (rows ++ [.tup [w1, w2, w3, w4]]))) :
    B8 (sl ns dv ow k a6 a7 a8 a9 a10 a11 a12 a13 a14 a15) S = .nx (sl ns dv ow k a6 a7 a8 a9 a10 (some w1) (some w2) (some w3) (some w4) a15) (S ++ [.lst (rows ++ [.tup [w1, w2, w3, w4]])]) := by
  have rc : aRecv "Memory" "log" (.ref 2) S = .ok (.ref 2) S := by rw [aRecv_e hm]; simp [memF]
  have al := atI_last rows (A.tup [w1, w2, w3, w4])
  generalize rows ++ [A.tup [w1, w2, w3, w4]] = rs at *
  have hlg : a_Memory_log [.ref 2] S = .ok (.ref S.length) (S ++ [.lst rs]) := by simp [a_Memory_log, fnA_d, aFld_e hm, memF, bList_l hr]
  have at1 : (S ++ [AO.lst rs])[S.length]? = some (.lst rs) := by simp
  simp [B8, sl, rc, hlg, aIx_l at1, al]
theorem b9_d (hq : Dq 5 q.a) : B9 (sl ns dv ow k a6 a7 a8 (some q.a) a10 a11 (some (actA .dev false)) (some q.a) a14 a15) S = .nx (sl ns dv ow k a6 a7 a8 (some q.a) a10 a11 (some (actA .dev false)) (some q.a) a14 a15) S := by
  have e1 := (dq_self hq (by decide) S).2
  have e2 := (dq_self (n := 2) (a := .tup [.str "device", .int 0]) (Dq.tup fun x hx => by
    simp only [List.mem_cons, List.not_mem_nil, or_false] at hx
    rcases hx with rfl | rfl
    · exact Dq.str _
    · exact Dq.int _) (by decide) S).2
  have ea : actA .dev false = .tup [.str "device", .int 0] := rfl
  rw [ea]
  generalize q.a = qa at *
  simp [B9, sl, e1, e2]
theorem b10_d {S' : Sto} {w2 : A} (e : a_law_behind [.ref ow, .int c, q.a, res] S = .ok .non S') : B10 (sl ns dv ow k a6 a7 (some (.int c)) a9 a10 a11 a12 (some q.a) (some res) a15) S = .nx (sl ns dv ow k a6 a7 (some (.int c)) a9 a10 a11 a12 (some q.a) (some res) a15) S' := by
  generalize q.a = qa at *
  simp [B10, sl, e]
theorem b11_d (h : K S f M N dv ow ns v o D) : ∃ T : Sto, B11 (sl ns dv ow k a6 a7 a8 a9 a10 a11 a12 a13 a14 a15) S = .nx (sl ns dv ow k a6 a7 a8 a9 a10 a11 a12 a13 a14 a15) (S ++ T) := by
  obtain ⟨p2, r2, s2, h02, hc⟩ := h.cv
  have lv : v.jobs.length < 1000 := by
    have := h.gd.len
    have e := h.vD.2.2.2.1
    rw [← e, List.length_map] at this
    omega
  have ej := dev_jobs hc lv
  rw [h.vi] at ej
  have e0 : (v.jobs.map fun r => r.j.ent) = D.jobs.map fun j => j.ent := by rw [← h.vD.2.2.2.1]; simp
  rw [e0] at ej
  have rc : aRecv "Device" "jobs" (.ref dv) S = .ok (.ref dv) S := by rw [aRecv_e h.dev]; simp [devF]
  have eo := own_jobs (h.app [AO.lst (D.jobs.map fun j => j.ent)]) (sl ns dv ow k a6 a7 a8 a9 a10 a11 a12 a13 a14 a15) rfl
  have hd : ∀ a ∈ (D.jobs.map fun j => j.ent), Dq 3 a := fun a ha => by
    obtain ⟨j, _, rfl⟩ := List.mem_map.mp ha
    exact (V3.ent j).2
  have t1 : (S ++ [AO.lst (D.jobs.map fun j => j.ent)] ++ [AO.lst (D.jobs.map fun j => j.ent)])[S.length]? = some (.lst (D.jobs.map fun j => j.ent)) := by simp
  have t2 : (S ++ [AO.lst (D.jobs.map fun j => j.ent)] ++ [AO.lst (D.jobs.map fun j => j.ent)])[(S ++ [AO.lst (D.jobs.map fun j => j.ent)]).length]? = some (.lst (D.jobs.map fun j => j.ent)) := by simp
  have en := (dq_lst hd (by decide) t1 t2).2
  refine ⟨[AO.lst (D.jobs.map fun j => j.ent)] ++ [AO.lst (D.jobs.map fun j => j.ent)], ?_⟩
  rw [← List.append_assoc]
  clear t1 t2 hd
  generalize S ++ [AO.lst (D.jobs.map fun j => j.ent)] = S1 at *
  generalize S1 ++ [AO.lst (D.jobs.map fun j => j.ent)] = S2 at *
  simp only [sl] at eo
  simp [B11, sl, rc, ej, eo, en]
theorem b12_d (h : K S f M N dv ow ns v o D) : B12 (sl ns dv ow k a6 a7 a8 a9 a10 a11 a12 a13 a14 a15) S = .nx (sl ns dv ow k a6 a7 a8 a9 a10 a11 a12 a13 a14 a15) S := by
  have d0 := h.dev
  have a0 := h.own
  obtain ⟨g0, g1, g2, g3, g4⟩ := h.vD
  obtain ⟨x0, x1, x2, x3, x4⟩ := h.oD
  simp only [owF, x0, x1, x2] at a0
  simp only [devF, g0, g1, g2] at d0
  have e2 := (dq_self (n := 2) (a := .tup [.int D.gen, .int D.taken, .int D.done]) (Dq.tup fun x hx => by
    simp only [List.mem_cons, List.not_mem_nil, or_false] at hx
    rcases hx with rfl | rfl | rfl <;> exact Dq.int _) (by decide) S).2
  simp [B12, sl, aFld_e d0, aGet_s a0, alk, e2]
/-- a turn's second half -/
theorem half_d (h : K S f M N dv ow ns v o D) (hN : N < 850) (c : Int) :
    ∃ (S' : Sto) (f' : RaM.MR → Nat) (M' : Mem) (v' o' : Dv) (D' : Dd) (b9 b10 b11 b12 b13 b14 : Option A),
      (ySeq B5 (ySeq B6 (ySeq B7 (ySeq B8 (ySeq B9 (ySeq B10 (ySeq B11 B12))))))) (sl ns dv ow k a6 a7 (some (.int c)) a9 a10 a11 a12 a13 a14 a15) S = .nx (sl ns dv ow k a6 a7 (some (.int c)) b9 b10 b11 b12 b13 b14 a15) S' ∧
      K S' f' M' (N + 1) dv ow ns v' o' D' := by
  obtain ⟨T, q, D', S1, f1, v1, e5, st, e7, t1, vi, vD, g1⟩ := step_d h hN c
  have e6 := b6_d (k := k) (a6 := a6) (a7 := a7) (a8 := some (.int c)) (a9 := some q.a) (a10 := a10) (a11 := a11) (a12 := a12) (a13 := a13) (a14 := a14) (a15 := a15) (h.app T)
  obtain ⟨p, r, s, h0, hc⟩ := t1.ex
  have hm : S1[2]? = some (.ins "Memory" (memF f1 (M.count + 1))) := by
    have := hc.mem.m
    rw [hc.mm] at this
    exact this
  have hr : S1[f1 .r]? = some (.lst (M.rows ++ [.tup [.int (M.count + 1), actA .dev false, q.a, (ex M false q).1]])) := hc.mem.r
  have e8 := b8_d (ns := ns) (dv := dv) (ow := ow) (k := k) (a6 := a6) (a7 := a7) (a8 := some (.int c)) (a9 := some q.a) (a10 := some (.int M.count)) (a11 := a11) (a12 := a12) (a13 := a13) (a14 := a14) (a15 := a15) hm hr
  have e7' := b7_d (k := k) (a6 := a6) (a7 := a7) (a9 := some q.a) (a11 := a11) (a12 := a12) (a13 := a13) (a14 := a14) (a15 := a15) (h.app T) e7 hm
  generalize AO.lst (M.rows ++ [.tup [.int (M.count + 1), actA .dev false, q.a, (ex M false q).1]]) = nl at *
  have ho2 : C (S1 ++ [nl]) f1 (acc M .dev false q) (N + 1) 2 (wo o ++ ((1, tpO 0 p r s) :: (0, .lst (ns.map .int)) :: v1.objs 2 false)) :=
    (hc.app [nl]).perm (List.perm_append_comm (l₁ := (1, tpO 0 p r s) :: (0, AO.lst (ns.map .int)) :: v1.objs 2 false) (l₂ := wo o))
  obtain ⟨S2, o', e10, hC2, oi, oD⟩ := behind_d ho2 h.oD h.gd st
  rw [h.oi] at e10
  have k2 : K S2 f1 (acc M .dev false q) (N + 1) dv ow ns v1 o' D' := ⟨tc_o h0 hC2, g1, vi, oi.trans h.oi, vD, oD, stp_good h.gd st⟩
  obtain ⟨T2, e11⟩ := b11_d (k := k) (a6 := a6) (a7 := a7) (a8 := some (.int c)) (a9 := some q.a) (a10 := some (.int M.count)) (a11 := some (.int (M.count + 1))) (a12 := some (actA .dev false)) (a13 := some q.a) (a14 := some (ex M false q).1) (a15 := a15) k2
  have e12 := b12_d (k := k) (a6 := a6) (a7 := a7) (a8 := some (.int c)) (a9 := some q.a) (a10 := some (.int M.count)) (a11 := some (.int (M.count + 1))) (a12 := some (actA .dev false)) (a13 := some q.a) (a14 := some (ex M false q).1) (a15 := a15) (k2.app T2)
  refine ⟨S2 ++ T2, f1, _, v1, o', D', some q.a, some (.int M.count), some (.int (M.count + 1)), some (actA .dev false), some q.a, some (ex M false q).1, ?_, k2.app T2⟩
  rw [ySeq_d, b5_d T e5, thn_nx, ySeq_d, e6, thn_nx, ySeq_d, e7', thn_nx, ySeq_d, e8, thn_nx, ySeq_d, b9_d (stp_dq h.gd st), thn_nx, ySeq_d, b10_d (w2 := .non) e10, thn_nx, ySeq_d, e11, thn_nx, e12]
end
end Ra19P
/-! RaY19: the loop of the law; the law. -/
namespace Ra19P
open RA RaP RaM L2
open PySem (PyData)
open Ra19 (a_law a_law_driver a_law_begin a_law_next a_law_describe a_law_wish a_law_taken a_law_moved a_law_behind)
section
variable {S : Sto} {f : RaM.MR → Nat} {M : Mem} {N dv ow : Nat} {ns : List Int} {v o : Dv} {D D' : Dd} {k : Int} {a6 a7 a8 a9 a10 a11 a12 a13 a14 a15 : Option A} {q : Rq} {res : A} {c : Int}
theorem turn_d (h : K S f M N dv ow ns v o D) (hN : N < 700) (k0 : 0 ≤ k) (k8 : k ≤ 8) :
    ∃ (S' : Sto) (f' : RaM.MR → Nat) (M' : Mem) (N' : Nat) (v' o' : Dv) (D' : Dd) (k' : Int) (b7 b8 b9 b10 b11 b12 b13 b14 : Option A),
      MB (sl ns dv ow k a6 a7 a8 a9 a10 a11 a12 a13 a14 a15) S = .nx (sl ns dv ow k' a6 b7 b8 b9 b10 b11 b12 b13 b14 a15) S' ∧
      K S' f' M' N' dv ow ns v' o' D' ∧ 0 ≤ k' ∧ k' ≤ 8 ∧ (N' : Int) + 8 * k ≤ N + 3 + 8 * k' := by
  obtain ⟨z, S1, e1, z0, z1, h1⟩ := h.nx (many := 12) (by decide) (by decide)
  have q0 : B0 (sl ns dv ow k a6 a7 a8 a9 a10 a11 a12 a13 a14 a15) S = .nx (sl ns dv ow k a6 (some (.int z)) a8 a9 a10 a11 a12 a13 a14 a15) S1 := by simp [B0, sl, e1]
  obtain ⟨S2, f2, M2, N2, k2, q1, h2, k20, k28, n2⟩ := b1_d (a6 := a6) (a8 := a8) (a9 := a9) (a10 := a10) (a11 := a11) (a12 := a12) (a13 := a13) (a14 := a14) (a15 := a15) h1 (by omega) k0 k8 z
  obtain ⟨S3, f3, M3, N3, q2, h3, n3⟩ := b2_d (k := k2) (a6 := a6) (a8 := a8) (a9 := a9) (a10 := a10) (a11 := a11) (a12 := a12) (a13 := a13) (a14 := a14) (a15 := a15) h2 (by omega) z
  obtain ⟨S4, f4, M4, N4, q3, h4, n4⟩ := b3_d (k := k2) (a6 := a6) (a8 := a8) (a9 := a9) (a10 := a10) (a11 := a11) (a12 := a12) (a13 := a13) (a14 := a14) (a15 := a15) h3 (by omega) z
  obtain ⟨c, S5, e5, c0, c1, h5⟩ := h4.nx (many := 16) (by decide) (by decide)
  have q4 : B4 (sl ns dv ow k2 a6 (some (.int z)) a8 a9 a10 a11 a12 a13 a14 a15) S4 = .nx (sl ns dv ow k2 a6 (some (.int z)) (some (.int c)) a9 a10 a11 a12 a13 a14 a15) S5 := by simp [B4, sl, e5]
  obtain ⟨S6, f6, M6, v', o', D', b9, b10, b11, b12, b13, b14, q5, h6⟩ := half_d (k := k2) (a6 := a6) (a7 := some (.int z)) (a9 := a9) (a10 := a10) (a11 := a11) (a12 := a12) (a13 := a13) (a14 := a14) (a15 := a15) h5 (by omega) c
  refine ⟨S6, f6, M6, N4 + 1, v', o', D', k2, some (.int z), some (.int c), b9, b10, b11, b12, b13, b14, ?_, h6, k20, k28, by omega⟩
  unfold MB
  rw [ySeq_d, q0, thn_nx, ySeq_d, q1, thn_nx, ySeq_d, q2, thn_nx, ySeq_d, q3, thn_nx, ySeq_d, q4, thn_nx, q5]
theorem loop_d (h : K S f M 2 dv ow ns v o D) : ∃ (S' : Sto) (as' : Slo), (yFor (iaR1 RNG) (gN 6) MB) (sl ns dv ow 0 none none none none none none none none none none) S = .nx as' S' := by
  obtain ⟨z, S1, e1, z0, z1, h1⟩ := h.nx (many := 3) (by decide) (by decide)
  obtain ⟨n, hn, hf⟩ : ∃ n : Int, (n = 10 ∨ n = 30 ∨ n = 90) ∧ RNG (sl ns dv ow 0 none none none none none none none none none none) S = .ok [.int n] S1 := by
    rcases (by omega : z = 0 ∨ z = 1 ∨ z = 2) with rfl | rfl | rfl
    · exact ⟨10, .inl rfl, by simp [RNG, sl, e1]⟩
    · exact ⟨30, .inr (.inl rfl), by simp [RNG, sl, e1]⟩
    · exact ⟨90, .inr (.inr rfl), by simp [RNG, sl, e1]⟩
  obtain ⟨as', S', p1, _⟩ := for_r1 (f := MB) (j := 6) (fun i as S => ∃ (f : RaM.MR → Nat) (M : Mem) (N : Nat) (v o : Dv) (D : Dd) (k : Int) (a6 a7 a8 a9 a10 a11 a12 a13 a14 a15 : Option A), as = sl ns dv ow k a6 a7 a8 a9 a10 a11 a12 a13 a14 a15 ∧ K S f M N dv ow ns v o D ∧ 0 ≤ k ∧ k ≤ 8 ∧ (N : Int) ≤ 2 + 8 * k + 3 * i) hf (by omega)
    ⟨f, M, 2, v, o, D, 0, none, none, none, none, none, none, none, none, none, none, rfl, h1, by omega, by omega, by omega⟩ fun i as S hi ⟨f, M, N, v, o, D, k, a6, a7, a8, a9, a10, a11, a12, a13, a14, a15, e, h, k0, k8, n⟩ => by
      subst e
      obtain ⟨S', f', M', N', v', o', D', k', b7, b8, b9, b10, b11, b12, b13, b14, e2, h2, x0, x1, x2⟩ := turn_d (k := k) (a6 := some (.int i)) (a7 := a7) (a8 := a8) (a9 := a9) (a10 := a10) (a11 := a11) (a12 := a12) (a13 := a13) (a14 := a14) (a15 := a15) h (by omega) k0 k8
      exact ⟨_, S', .inl e2, f', M', N', v', o', D', k', some (.int i), b7, b8, b9, b10, b11, b12, b13, b14, a15, rfl, h2, x0, x1, by omega⟩
  exact ⟨S', as', p1⟩
theorem f0_ge (b : Nat) (r : RaM.MR) : b ≤ f0 b r := by
  cases r with
  | g d => cases d <;> simp only [f0] <;> omega
  | k d => cases d <;> simp only [f0] <;> omega
  | w d => cases d <;> simp only [f0] <;> omega
  | b d => cases d <;> simp only [f0] <;> omega
  | _ => simp only [f0] <;> omega
theorem tc0 (ns : List Int) : TC ([.lst (ns.map .int), tpO 0 0 0 5] ++ new0 2) (f0 2) mem0 0 2 1 0 ns [] := by
  refine ⟨0, 0, 5, Int.le_refl 0, mem0_at [.lst (ns.map .int), tpO 0 0 0 5], wf_mem0, rfl, ⟨fun p hp => ?_, by simp⟩, fun r p hp => ?_⟩
  · simp only [List.mem_cons, List.not_mem_nil, or_false] at hp
    rcases hp with rfl | rfl <;> rfl
  · have := f0_ge 2 r
    simp only [List.mem_cons, List.not_mem_nil, or_false] at hp
    rcases hp with rfl | rfl
    · show f0 2 r ≠ 1; omega
    · show f0 2 r ≠ 0; omega
theorem TC.new3 {m t r : Nat} {L : List (Nat × AO)} (h : TC S f M N m t r ns L) (x y z : AO) : TC (S ++ [x, y, z]) f M N m t r ns (L ++ [(S.length, x), (S.length + 1, y), (S.length + 2, z)]) := by
  obtain ⟨p, e, s, h0, hc⟩ := h.ex
  have k := ((hc.new x).new y).new z
  rw [show (S ++ [x]).length = S.length + 1 by simp, show (S ++ [x] ++ [y]).length = S.length + 2 by simp, show S ++ [x] ++ [y] ++ [z] = S ++ [x, y, z] by simp] at k
  refine ⟨p, e, s, h0, k.perm ?_⟩
  have a1 : ([(S.length + 2, z), (S.length + 1, y), (S.length, x)] ++ ((t, tpO r p e s) :: (r, AO.lst (ns.map .int)) :: L)).Perm (((t, tpO r p e s) :: (r, AO.lst (ns.map .int)) :: L) ++ [(S.length, x), (S.length + 1, y), (S.length + 2, z)]) :=
    List.perm_append_comm.trans (List.Perm.append_left _ (List.reverse_perm [(S.length, x), (S.length + 1, y), (S.length + 2, z)]))
  exact a1
theorem main : ∀ ns : List Int, ns.length ≤ 63 → ∃ S, a_law [.seq (ns.map .int)] [] = .ok (.bl true) S := by
  intro ns hn
  have q0 : A0 [some (.seq (ns.map .int)), none, none, none, none, none, none, none, none, none, none, none, none, none, none, none] [] = .nx [some (.seq (ns.map .int)), some (.ref 1), none, none, none, none, none, none, none, none, none, none, none, none, none, none] [.lst (ns.map .int), tpO 0 0 0 5] := by
    simp [A0]
  have mn := memory_new [.lst (ns.map .int), tpO 0 0 0 5]
  have h0 := tc0 ns
  have q1 : A1 [some (.seq (ns.map .int)), some (.ref 1), none, none, none, none, none, none, none, none, none, none, none, none, none, none] [.lst (ns.map .int), tpO 0 0 0 5] = .nx [some (.seq (ns.map .int)), some (.ref 1), some (.ref 2), none, none, none, none, none, none, none, none, none, none, none, none, none] ([.lst (ns.map .int), tpO 0 0 0 5] ++ new0 2) := by
    have mn : aMake "Memory" a_Memory_init [] [.lst (ns.map .int), tpO 0 0 0 5] = .ok (.ref 2) ([.lst (ns.map .int), tpO 0 0 0 5] ++ new0 2) := mn
    generalize [AO.lst (ns.map .int), tpO 0 0 0 5] ++ new0 2 = S1 at *
    simp [A1, mn]
  clear mn
  generalize hS1 : [AO.lst (ns.map .int), tpO 0 0 0 5] ++ new0 2 = S1 at *
  have dn : aMake "Device" a_Device_init [.ref 2, .int 0] S1 = _ := dev_new S1 2 false
  have h2 := h0.new3 (.ins "Device" (devF ⟨S1.length, S1.length + 1, S1.length + 2, .int 0, 0, 0, [], []⟩ 2 false)) (.lst []) (.lst [])
  have q2 : A2 [some (.seq (ns.map .int)), some (.ref 1), some (.ref 2), none, none, none, none, none, none, none, none, none, none, none, none, none] S1 = .nx [some (.seq (ns.map .int)), some (.ref 1), some (.ref 2), some (.ref S1.length), none, none, none, none, none, none, none, none, none, none, none, none] (S1 ++ [.ins "Device" (devF ⟨S1.length, S1.length + 1, S1.length + 2, .int 0, 0, 0, [], []⟩ 2 false), .lst [], .lst []]) := by
    simp [A2, dn]
  generalize hS2 : S1 ++ [AO.ins "Device" (devF ⟨S1.length, S1.length + 1, S1.length + 2, .int 0, 0, 0, [], []⟩ 2 false), .lst [], .lst []] = S2 at *
  obtain ⟨S3, f3, M3, e3, h3, g3⟩ := begin_d h2 mg0 (by decide)
  have q3 : A3 [some (.seq (ns.map .int)), some (.ref 1), some (.ref 2), some (.ref S1.length), none, none, none, none, none, none, none, none, none, none, none, none] S2 = .nx [some (.seq (ns.map .int)), some (.ref 1), some (.ref 2), some (.ref S1.length), none, none, none, none, none, none, none, none, none, none, none, none] S3 := by
    simp [A3, e3]
  have h4 := h3.new3 (.dK false (owF ⟨S3.length, S3.length + 1, S3.length + 2, .int 0, 0, 0, [], []⟩)) (.lst []) (.lst [])
  have q4 : A4 [some (.seq (ns.map .int)), some (.ref 1), some (.ref 2), some (.ref S1.length), none, none, none, none, none, none, none, none, none, none, none, none] S3 = .nx [some (.seq (ns.map .int)), some (.ref 1), some (.ref 2), some (.ref S1.length), some (.ref S3.length), none, none, none, none, none, none, none, none, none, none, none] (S3 ++ [.dK false (owF ⟨S3.length, S3.length + 1, S3.length + 2, .int 0, 0, 0, [], []⟩), .lst [], .lst []]) := by
    simp [A4, xDisp, xVals, aDisp, at_app0, at_app, set_app0, set_app, mergeA, aput, alk, owF]
  generalize hS4 : S3 ++ [AO.dK false (owF ⟨S3.length, S3.length + 1, S3.length + 2, .int 0, 0, 0, [], []⟩), .lst [], .lst []] = S4 at *
  have hK : K S4 f3 M3 2 S1.length S3.length ns ⟨S1.length, S1.length + 1, S1.length + 2, .int 0, 0, 0, [], []⟩ ⟨S3.length, S3.length + 1, S3.length + 2, .int 0, 0, 0, [], []⟩ dd0 := by
    refine ⟨?_, g3, rfl, rfl, ⟨rfl, rfl, rfl, rfl, rfl⟩, ⟨rfl, rfl, rfl, rfl, rfl⟩, good0 false⟩
    simpa [Dv.objs, wo] using h4
  obtain ⟨S6, as6, e6⟩ := loop_d hK
  refine ⟨S6, ?_⟩
  rw [law_eq, fn1]
  show (ySeq A0 _ [some (.seq (ns.map .int)), none, none, none, none, none, none, none, none, none, none, none, none, none, none, none] []).end = _
  have q5 : A5 [some (.seq (ns.map .int)), some (.ref 1), some (.ref 2), some (.ref S1.length), some (.ref S3.length), none, none, none, none, none, none, none, none, none, none, none] S4 = .nx (sl ns S1.length S3.length 0 none none none none none none none none none none) S4 := by
    simp [A5, sl]
  rw [ySeq_d, q0, thn_nx, ySeq_d, q1, thn_nx, ySeq_d, q2, thn_nx, ySeq_d, q3, thn_nx, ySeq_d, q4, thn_nx, ySeq_d, q5, thn_nx, ySeq_d, e6, thn_nx]
  simp [A7]
end
end Ra19P
namespace Ra19
theorem main : ∀ ns : List Int, ns.length ≤ 63 → ∃ S, a_law [.seq (ns.map .int)] [] = .ok (.bl true) S := Ra19P.main
end Ra19
open PySem PySem.W PySem.Calls PyProof.Rows
theorem PySem.Challenge.cw_ringbound_k19_honest_devices_step_by_ste_holds : PySem.Challenge.rw_ringbound_k19_honest_devices_step_by_ste.Holds := by
  w_on; o_law
  refine RbH.head_X (N := 400000) (i := 21) (r := OpenLaw.row PySem.Challenge.rw_ringbound_k19_honest_devices_step_by_ste) (q := view (OpenLaw.row PySem.Challenge.rw_ringbound_k19_honest_devices_step_by_ste).prog [61]) (H := Ra19.hk) (ob := Ra19.ob) (M := 4000) (loose := Ra19.names) (d := HandSHeadRun.topDef (OpenLaw.row PySem.Challenge.rw_ringbound_k19_honest_devices_step_by_ste).prog 61) (kwd := []) Ra19.ob_eq
    (by kernel_rfl) (by decide) (fun s => by kernel_rfl) Ra19.run (by kernel_rfl) (by kernel_rfl) (by kernel_rfl) (by rfl) (by first | assumption | decide +kernel) (by decide +kernel) ⟨rfl, rfl, rfl, rfl, rfl, by decide +kernel⟩ ?hw ?hc
  case hw => w_witness2
  case hc =>
    refine Rb.walk_ofX (l := PySem.Challenge.rw_ringbound_k19_honest_devices_step_by_ste) (n := 63) (k := 11) (x := "_law_script") rfl (by decide) (by kernel_rfl) ⟨rfl, by decide, by decide⟩ ?F
    intro w mg fa h Y G hmg0
    obtain ⟨K, KX, c, hex, hsh⟩ := Y
    have hmg : mg ("law" : PySem.Str) = some (.ref fa) := by
      have e : (HandSHeadRun.topDef (OpenLaw.row PySem.Challenge.rw_ringbound_k19_honest_devices_step_by_ste).prog 61).name = ("law" : PySem.Str) := by kernel_rfl
      rw [← e]
      exact hmg0
    obtain ⟨fd, hb, hF⟩ := Ra19.facts (P := (PySem.Challenge.rw_ringbound_k19_honest_devices_step_by_ste).prog) (w := w) KX G hmg c hex hsh
    exact ⟨K, fd, RA.spA K Ra19.a_law, KX, hb, fun H a xs hl hO hS => RA.law_spA Ra19.main H a xs hl hO hS, hF⟩


