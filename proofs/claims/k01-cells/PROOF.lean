import PyProof.Rows.All
import Wide.All
import OpenK.AllK
import Wide.FinOn
import PyProof.EqAt
import PyProof.EqKinds
import PyProof.TupleCall
import HandS.ForMost
import HandS.ForExc
import HandS.Conv
import HandS.TupMul
import HandS.TupAny
import HandS.Style
import HandS.Steps
import HandS.Deep
import HandS.IsInst
import HandS.Flow
import HandS.Defaults
import HandS.HeadHook1
import HandS.HeadHook2
import HandS.HeadEnd
import HandS.Head0
import HandS.Head1
import HandS.Head2
import KE.KStateDown
import HandS.ExcOwn
import HandS.ExcIs
import HandS.TryOnly
import HandS.More
import PyProof.ExcBaseAll.ValueError
import PySem.Challenge.RW_ringbound_k01_cells
set_option Elab.async false
set_option linter.all false
set_option maxRecDepth 100000
set_option maxHeartbeats 4000000
/-! Rb: rules joined by cases, names for readings, the tactic rows of the walks. -/
namespace Rb
open PySem PySem.Spec PyProof.Rows L2
/-! ### names of readings -/
def rAddI : R2 := rI0 fun i j => .int (i + j)
def rSubI : R2 := rI0 fun i j => .int (i - j)
def rMulI : R2 := rI CMul fun i j => .int (i * j)
def rDivI : R2 := rI CDiv fun i j => .int (i / j)
def rModI : R2 := rI (fun _ j => 0 < j) fun i j => .int (i % j)
def rPowI : R2 := rI CPow fun i j => .int (i ^ j.toNat)
def rNegI : V → Hp → VK → Prop := rU fun i => .int (-i)
def rLtI : R2 := rI0 fun i j => .bl (decide (i < j))
def rLeI : R2 := rI0 fun i j => .bl (decide (i ≤ j))
def rGtI : R2 := rI0 fun i j => .bl (decide (j < i))
def rGeI : R2 := rI0 fun i j => .bl (decide (j ≤ i))
def rAddA (K : PySem.W.Frag) : R2 := fun x y H Q => rAddI x y H Q ∨ rCat x y H Q ∨ rCatA K x y H Q
def rMulA (K : PySem.W.Frag) : R2 := fun x y H Q => rMulI x y H Q ∨ rRep x y H Q ∨ rRepT K x y H Q
def rSlX (K : PySem.W.Frag) : V → Option Int → Option Int → Hp → VK → Prop := fun x lo hi H Q => rSlL K x lo hi H Q ∨ rSlA K x lo hi H Q
def rInA (K : PySem.W.Frag) : R2 := fun x y H Q => rIn K false x y H Q ∨ rInD K x y H Q
def rNiA (K : PySem.W.Frag) : R2 := fun x y H Q => rIn K true x y H Q ∨ rNotInD K x y H Q
def rLenA (K : PySem.W.Frag) : List V → Hp → VK → Prop := fun xs H Q => ∃ x n, xs = [x] ∧ LenV K x H n ∧ Q (.int n) H
def rAbsI : List V → Hp → VK → Prop := fun xs H Q => ∃ i, xs = [.int i] ∧ Q (.int (if i < 0 then -i else i)) H
def rIntC : List V → Hp → VK → Prop := fun xs H Q => (∃ i, xs = [.int i] ∧ Q (.int i) H) ∨ ∃ k, xs = [.bl k] ∧ Q (.int (if k then 1 else 0)) H
def rMin2 : List V → Hp → VK → Prop := fun xs H Q => ∃ i j, xs = [.int i, .int j] ∧ Q (.int (if j < i then j else i)) H
def rMax2 : List V → Hp → VK → Prop := fun xs H Q => ∃ i j, xs = [.int i, .int j] ∧ Q (.int (if j > i then j else i)) H
def rListC (K : PySem.W.Frag) : List V → Hp → VK → Prop := fun xs H Q => ∃ p ys, xs = [.ref p] ∧ (SqL K H p ys ∨ SqT K H p ys) ∧ ∀ l, H l = none → Q (.ref l) (upd H l (.lst ys))
def rTupC (K : PySem.W.Frag) : List V → Hp → VK → Prop := fun xs H Q => ∃ p ys, xs = [.ref p] ∧ ((SqL K H p ys ∧ ∀ l, H l = none → Q (.ref l) (upd H l (.tup ys))) ∨ (SqT K H p ys ∧ Q (.ref p) H))
section
variable {X : Cx}
theorem op_addA : OpR X (binaryOp .Add) (rAddA X.K) := OpR.or op_add (OpR.or op_cat op_catA)
theorem op_mulA : OpR X (binaryOp .Mult) (rMulA X.K) := OpR.or op_mul (OpR.or op_rep op_repT)
theorem op_subN : OpR X (binaryOp .Sub) rSubI := op_sub
theorem op_divN : OpR X (binaryOp .FloorDiv) rDivI := op_fdiv
theorem op_modI : OpR X (binaryOp .Mod) rModI := op_mod
theorem op_powI : OpR X (binaryOp .Pow) rPowI := op_pow
theorem un_negI : UnR X (unaryOp .USub) rNegI := un_neg
theorem op_ltI : OpR X (compareOp .Lt) rLtI := op_lt
theorem op_leI : OpR X (compareOp .LtE) rLeI := op_le
theorem op_gtI : OpR X (compareOp .Gt) rGtI := op_gt
theorem op_geI : OpR X (compareOp .GtE) rGeI := op_ge
theorem sl_A : SlR X (rSlX X.K) := SlR.or sl_list sl_tupA
theorem op_inA (hu : X.A.units + 65 < cLine) : OpR X (compareOp .In) (rInA X.K) := OpR.or op_in_seq (op_inD hu)
theorem op_niA (hu : X.A.units + 65 < cLine) : OpR X (compareOp .NotIn) (rNiA X.K) := OpR.or op_notIn_seq (op_notInD hu)
theorem cr_len : CallR X (.builtin "len") (rLenA X.K) := call_len
theorem cr_abs : CallR X (.builtin "abs") rAbsI := call_abs
theorem cr_int : CallR X (.type "int") rIntC := call_int1
theorem cr_min2 (hc : X.calm = true) : CallR X (.builtin "min") rMin2 := call_min2 hc
theorem cr_max2 (hc : X.calm = true) : CallR X (.builtin "max") rMax2 := call_max2 hc
theorem cr_list : CallR X (.type "list") (rListC X.K) := call_list_of
theorem cr_tup : CallR X (.type "tuple") (rTupC X.K) := call_tuple_of
theorem cr_isi : CallR X (.builtin "isinstance") (rIsi X.K) := call_isi
theorem pt_tru {a : Expr} {ta : TE} (ha : PE X a ta) (he : ∀ whole, isTrue a X.env whole = (do let v ← whole; standAt a.pos; holding [v] (truthy v)) := by intro _; rfl) : PT X a (tTru X.K ta) := pt_truth ha he
theorem pe_gint {x : Str} {i : Int} {pos : Pos} (hg : Gl X x) (hm : ∃ t, X.mg x = some (.int i t)) (hd : (x == ("__debug__" : Str)) = false := by decide) : PE X (.Name x pos) (tC (.int i)) := by
  obtain ⟨t, e⟩ := hm
  exact pe_glob hg e ⟨t, rfl⟩ hd
/-! ### l[i] as a place of l[i] op= e -/
def rGetL (K : PySem.W.Frag) : V → V → Hp → VK → Prop := fun x y H Q => ∃ p xs i v, x = .ref p ∧ y = .int i ∧ SqL K H p xs ∧ 0 ≤ i ∧ xs[i.toNat]? = some v ∧ Q v H
theorem get_list : PGet X (rGetL X.K) := by
  intro pins s σ H o i ov iv Q I ro ri h
  obtain ⟨p, xs, k, v, rfl, rfl, hp, hk, hx, q⟩ := h
  cases ro
  obtain ⟨t, rfl⟩ := ri
  obtain ⟨its, r, pl, hz⟩ := I.list hp
  obtain ⟨w, ew, rw'⟩ := r.get hx
  have hlt : k.toNat < xs.length := (List.getElem?_eq_some_iff.mp hx).1
  have hn := line63
  have hl := r.length
  refine wpAny_getItem_list pl.isList hk (by omega) (by simpa using ew) ⟨v, H, I, rw', q⟩
end
/-! ### a word between a statement and the rest -/
def tCut (t u : TS) : TS := fun D σ H => ∃ Mid : L2.St → Hp → Prop, t { D with nx := Mid } σ H ∧ ∀ σ' H', Mid σ' H' → u D σ' H'
theorem pss_cut {X : Cx} {st : Stmt} {rest : List Stmt} {t u : TS} (h1 : PS X st t) (h2 : PSs X rest u) : PSs X (st :: rest) (tCut t u) := by
  refine ⟨fun pins s σ H D I h => ?_⟩
  obtain ⟨Mid, hm, hu⟩ := h
  refine wpAny_execs_cons (thn (h1.run pins s σ H { D with nx := Mid } I hm) fun f s1 q => ?_)
  cases f with
  | next =>
    obtain ⟨σ', H', I', q⟩ := q
    exact h2.run pins s1 σ' H' D I' (hu σ' H' q)
  | ret v => exact q
  | brk => exact q
  | cont => exact q
/-! ### a def of the text with its arguments -/
/-- a def keeps its promise at f, with its arguments' binding -/
def Okd (P : Program) (w : World) (K : PySem.W.Frag) (mg : Str → Option Value) (base : Heap) (k : Nat) (f : Addr) (ps : List Str) (sp : Sp) : Prop :=
  ∃ fd, FnOk P w K mg base (L2.CX P w) k f fd ps sp ∧ Binds K fd ps [] ∧ PySem.W.keepIn K (.ref f) = true ∧ ∃ oc od osl, K.lookup f = some ⟨oc, od, .func fd, osl⟩
theorem Okd.of {P : Program} {w : World} {K : PySem.W.Frag} {mg : Str → Option Value} {base : Heap} {x qual : Str} {st : Stmt} {f : Addr} {N ps : List Str} {k : Nat} {sp : Sp}
    (hF : ∃ fd, FunD K x qual (defArgs st) (defBody st) (defScope st) [] [] f fd) (S : FnScope N ps (defScope st)) (len : ∀ vs H Q E, sp vs H Q E → vs.length = ps.length)
    (hb : ∀ (kV doc pm : Value) (an : Option Addr) (cdv ct : Value) (us : List Value), us.length = ps.length → bindArgs (PySem.W.fnOf x qual (defArgs st) (defBody st) (defScope st) .none kV doc pm an cdv ct) ⟨us, []⟩ = pure (ps.zip us))
    {t : XK → TS} (hbody : ∀ (cdv : Value) (A : Around) (outer : List Env) (s : Shared) (H : Hp) (E : XK), Room k (A.deeper (envOfC qual (defScope st) s.heap.objs.size f cdv)) →
      PSs (cxOf (L2.CX P w) P w K mg base N qual (defScope st) f cdv A outer s H E) (defBody st) (t E))
    (pure_ : ∀ vs H Q E, sp vs H Q E → t E { nx := fun _ H' => Q .non H', rt := Q } (start N vs) H) : Okd P w K mg base (k + 1) f ps sp := by
  obtain ⟨fd, F⟩ := hF
  refine ⟨fd, F.ok S len fun cdv A outer s H vs Q E hr h => ⟨t E, hbody cdv A outer s H E hr, pure_ vs H Q E h⟩, F.bindsN hb, F.kp, ?_⟩
  obtain ⟨oc, od, dV, kV, doc, pm, an, cdv, ct, osl, rfl, lk, _, _, _⟩ := F.ex
  exact ⟨oc, od, osl, lk⟩
theorem Okd.fixD {P : Program} {w : World} {K : PySem.W.Frag} {mg : Str → Option Value} {base : Heap} {x qual : Str} {params : Arguments} {body : List Stmt} {scope : Scope} {f : Addr} {ps : List Str} {k : Nat} {sp : Sp} {fd : FuncData} {dvs : List V} {kws : List (Str × V)}
    (F : FunD K x qual params body scope dvs kws f fd) (h : Okd P w K mg base k f ps sp) : FnOk P w K mg base (L2.CX P w) k f fd ps sp := by
  obtain ⟨oc, od, dV, kV, doc, pm, an, cdv, ct, osl, rfl, lk, _, _, _⟩ := F.ex
  obtain ⟨fd', G, _, _, oc', od', osl', lk'⟩ := h
  rw [lk] at lk'
  injection lk' with z
  injection z with _ _ z _
  injection z with z
  rw [z]
  exact G
theorem Okd.mono {P : Program} {w : World} {K : PySem.W.Frag} {mg : Str → Option Value} {base : Heap} {j k : Nat} {f : Addr} {ps : List Str} {sp : Sp} (h : Okd P w K mg base j f ps sp) (hk : j ≤ k) : Okd P w K mg base k f ps sp := by
  obtain ⟨fd, F, b, kp, lk⟩ := h
  exact ⟨fd, F.mono hk, b, kp, lk⟩
/-! ### the law's call, where an exception may be in the air within -/
theorem walk_ofX {l : PySem.W.OpenLaw} {n k : Nat} {q : Program} {loose : List Str} {XP : (Str → Option Value) → Heap → Prop} {YP : World → Heap → Prop} {d : DefRec} {x : Str}
    (hn : l.most = some n) (hn2 : n ≤ sizeLine) (hdf : d.params.defaults = []) (hr : Room k callerA)
    (F : ∀ (w : World) (mg : Str → Option Value) (fa : Addr) (h : Heap), YP w h → h.Ns mainGlobals mg → mg d.name = some (.ref fa) →
      ∃ (K : PySem.W.Frag) (fd : FuncData) (sp : Sp), K.In h ∧ (∀ (s : Shared) (u : Value), BindsTo s fd ⟨[u], []⟩ [(x, u)]) ∧
        (∀ (H : Hp) (a : Addr) (ns : List Int), ns.length ≤ n → Only H → SqL K H a (ns.map V.int) → sp [.ref a] H (fun v _ => v = .bl true) fun _ _ _ => False) ∧
        ∀ base : Heap, K.In base → base.Ns mainGlobals mg → FnOk l.prog w K mg base (L2.CX l.prog w) k fa fd [x] sp) :
    PySem.W.WalkO q loose XP YP l.row.toRowW d [] (fun f vs => PySem.call f vs) := by
  refine Att.attach_call hn hdf fun w s₀ s₁ mg mb fa o pm cd doc a vs ns G Y ho hd hcd hmg hobj hints hlen hg => ?_
  obtain ⟨K, fd, sp, KX, hb, hsp, hF⟩ := F w mg fa _ Y G.T.g hmg
  exact law_call KX G.T.g G.T.b G.T.builtins G.T.nolimit hg hobj hints (Nat.le_trans hlen hn2) hr hF hb (fun H hO hS => hsp H a ns hlen hO hS) fun H e s' ⟨_, _, _, _, _, _, _, _, _, _, _, _, z⟩ => z
end Rb
/-! Rb: readings, one step at a time (i_*). -/
namespace Rb
open PySem PySem.Spec PyProof.Rows L2
variable {K : PySem.W.Frag} {σ : L2.St} {H H1 H2 : Hp} {D : Ends} {Q : VK} {QB : Bool → Hp → Prop} {QA : List V → Hp → Prop} {E : XK}
/-! ### statements -/
theorem i_seq {t u : TS} (h : t { D with nx := u D } σ H) : tSeq t u D σ H := h
theorem i_cut {t u : TS} (M : L2.St → Hp → Prop) (h : t { D with nx := M } σ H) (k : ∀ σ' H', M σ' H' → u D σ' H') : tCut t u D σ H := ⟨M, h, k⟩
theorem i_asg {te : TE} {g : TG} (h : te σ H fun x H1 => g x σ H1 D.nx) : tAsg te g D σ H := h
theorem i_gname {i : Nat} {v : V} {R : L2.St → Hp → Prop} (h : R (σ.set i (some v)) H) : gName i v σ H R := h
theorem i_gsub {to ti : TE} {t : TSet} {v : V} {R : L2.St → Hp → Prop} (h : to σ H fun o H1 => ti σ H1 fun i H2 => t o i v H2 fun H3 => R σ H3) : gSub to ti t v σ H R := h
theorem i_gtup {n : Nat} {t : TGs} {a : Addr} {xs : List V} {R : L2.St → Hp → Prop} (hq : SqT K H a xs) (hl : xs.length = n) (h : t xs σ H R) : gTup K n t (.ref a) σ H R := ⟨a, xs, rfl, hq, hl, h⟩
theorem i_gnil {R : L2.St → Hp → Prop} (h : R σ H) : gNil [] σ H R := ⟨rfl, h⟩
theorem i_gcons {t : TG} {u : TGs} {v : V} {r : List V} {R : L2.St → Hp → Prop} (h : t v σ H fun σ' H' => u r σ' H' R) : gCons t u (v :: r) σ H R := ⟨v, r, rfl, h⟩
theorem i_ret {te : TE} (h : te σ H D.rt) : tRet te D σ H := h
theorem i_retN (h : D.rt .non H) : tRetN D σ H := h
theorem i_next (h : D.nx σ H) : tNext D σ H := h
theorem i_cont (h : D.ct σ H) : tCont D σ H := h
theorem i_break (h : D.bk σ H) : tBreak D σ H := h
theorem i_drop {te : TE} (h : te σ H fun _ H1 => D.nx σ H1) : tDrop te D σ H := h
theorem i_ifS {c : TT} {t u : TS} (h : c σ H fun b H1 => if b = true then t D σ H1 else u D σ H1) : tIfS c t u D σ H := h
theorem i_setL {p : Addr} {xs : List V} {k : Int} {j : Nat} {v : V} {R : Hp → Prop} (hp : H p = some (.lst xs)) (hj : ixN xs.length k = some j) (h : R (upd H p (.lst (xs.set j v)))) : rSetL (.ref p) (.int k) v H R := ⟨p, xs, k, j, rfl, rfl, hp, hj, h⟩
theorem i_augS {to ti te : TE} {tget : V → V → Hp → VK → Prop} {tip : TIp} {tset : TSet} (h : to σ H fun o H1 => ti σ H1 fun i H2 => tget o i H2 fun x H3 => te σ H3 fun y H4 => tip x y H4 fun z H5 => tset o i z H5 fun H6 => D.nx σ H6) : tAugS to ti te tget tip tset D σ H := h
theorem i_getL {p : Addr} {xs : List V} {i : Int} {v : V} (hp : SqL K H p xs) (h0 : 0 ≤ i) (hv : xs[i.toNat]? = some v) (q : Q v H) : rGetL K (.ref p) (.int i) H Q := ⟨p, xs, i, v, rfl, rfl, hp, h0, hv, q⟩
theorem i_ipI {f : Int → Int → Int} {i j : Int} (q : Q (.int (f i j)) H) : ipI f (.int i) (.int j) H Q := ⟨i, j, rfl, rfl, q⟩
theorem i_aug {i : Nat} {te : TE} {ti : TIp} {x : V} (hx : σ[i]? = some (some x)) (h : te σ H fun y H1 => ti x y H1 fun z H2 => D.nx (σ.set i (some z)) H2) : tAug i te ti D σ H := ⟨x, hx, h⟩
theorem i_sfld {ta tv : TE} {f : Str} (h : tv σ H fun y H1 => ta σ H1 fun x H2 => ∃ a C dx fs, x = .ref a ∧ H2 a = some (.ins C dx fs) ∧ Cls K C ∧ NoAttr K C f ∧ fs.length < 1000 ∧ D.nx σ (upd H2 a (.ins C dx (putF f y fs)))) : sFld K ta tv f D σ H := h
theorem i_sfldIn {a C dx : Addr} {fs : List (Str × V)} {f : Str} {y : V} (h : H a = some (.ins C dx fs)) (c : Cls K C) (n : NoAttr K C f) (l : fs.length < 1000) (q : D.nx σ (upd H a (.ins C dx (putF f y fs)))) :
    ∃ a' C dx fs, V.ref a = .ref a' ∧ H a' = some (.ins C dx fs) ∧ Cls K C ∧ NoAttr K C f ∧ fs.length < 1000 ∧ D.nx σ (upd H a' (.ins C dx (putF f y fs))) := ⟨a, C, dx, fs, rfl, h, c, n, l, q⟩
/-! ### expressions -/
theorem i_var {i : Nat} {v : V} (h : σ[i]? = some (some v)) (q : Q v H) : tVar i σ H Q := ⟨v, h, q⟩
theorem i_c {v : V} (q : Q v H) : tC v σ H Q := q
theorem i_op {r : R2} {ta tb : TE} (h : ta σ H fun x H1 => tb σ H1 fun y H2 => r x y H2 Q) : tOp r ta tb σ H Q := h
theorem i_un {r : V → Hp → VK → Prop} {ta : TE} (h : ta σ H fun x H1 => r x H1 Q) : tUn r ta σ H Q := h
theorem i_neg {i : Int} (q : Q (.int (-i)) H) : rNegI (.int i) H Q := ⟨i, rfl, q⟩
theorem i_nil (q : QA [] H) : tNil σ H QA := q
theorem i_cons {ta : TE} {tr : TA} (h : ta σ H fun x H1 => tr σ H1 fun xs H2 => QA (x :: xs) H2) : tCons ta tr σ H QA := h
theorem i_tup {t : TA} (h : t σ H fun xs H1 => xs.length ≤ sizeLine ∧ ∀ p, H1 p = none → Q (.ref p) (upd H1 p (.tup xs))) : tTup t σ H Q := h
theorem i_lst {t : TA} (h : t σ H fun xs H1 => xs.length ≤ sizeLine ∧ ∀ p, H1 p = none → Q (.ref p) (upd H1 p (.lst xs))) : tLst t σ H Q := h
theorem i_cb {r : List V → Hp → VK → Prop} {t : TA} (h : t σ H fun vs H1 => r vs H1 Q) : tCB r t σ H Q := h
theorem i_bm {T : String} {r : V → List V → Hp → VK → Prop} {to : TE} {t : TA} (h : to σ H fun x H1 => tyV K T x H1 ∧ t σ H1 fun xs H2 => r x xs H2 Q) : tBM K T r to t σ H Q := h
theorem i_bm0 {T : String} {r : V → List V → Hp → VK → Prop} {to : TE} (h : to σ H fun x H1 => tyV K T x H1 ∧ r x [] H1 Q) : tBM0 K T r to σ H Q := h
theorem i_fld {ta : TE} {f : Str} (h : ta σ H fun x H1 => ∃ a C dx fs v, x = .ref a ∧ H1 a = some (.ins C dx fs) ∧ Cls K C ∧ NoAttr K C f ∧ fs.lookup f = some v ∧ Q v H1) : tFld K ta f σ H Q := h
theorem i_fldIn {a C dx : Addr} {fs : List (Str × V)} {f : Str} {v : V} {R : V → Prop} (h : H a = some (.ins C dx fs)) (c : Cls K C) (n : NoAttr K C f) (l : fs.lookup f = some v) (q : R v) :
    ∃ a' C dx fs v, V.ref a = .ref a' ∧ H a' = some (.ins C dx fs) ∧ Cls K C ∧ NoAttr K C f ∧ fs.lookup f = some v ∧ R v := ⟨a, C, dx, fs, v, rfl, h, c, n, l, q⟩
theorem i_sl {r : V → Option Int → Option Int → Hp → VK → Prop} {te : TE} {tl th : TO} (h : te σ H fun x H1 => tl σ H1 fun l H2 => th σ H2 fun u H3 => r x l u H3 Q) : tSl r te tl th σ H Q := h
theorem i_nopart {R : Option Int → Hp → Prop} (q : R none H) : tNoPart σ H R := q
theorem i_part {t : TE} {R : Option Int → Hp → Prop} (h : t σ H fun x H1 => ∃ i, x = .int i ∧ R (some i) H1) : tPart t σ H R := h
theorem i_partIn {i : Int} {R : Int → Prop} (q : R i) : ∃ j, V.int i = .int j ∧ R j := ⟨i, rfl, q⟩
theorem i_chain {r r' : R2} {ta tb tc : TE} (h : ta σ H fun x H1 => tb σ H1 fun y H2 => r x y H2 fun z H3 => ∃ k, z = .bl k ∧ (if k = true then tc σ H3 fun w' H4 => r' y w' H4 Q else Q (.bl false) H3)) : tChain r r' ta tb tc σ H Q := h
theorem i_andV {ta tb : TE} (h : ta σ H fun x H1 => ∃ c, x = .bl c ∧ if c = true then tb σ H1 Q else Q (.bl false) H1) : tAndV ta tb σ H Q := h
theorem i_orV {ta tb : TE} (h : ta σ H fun x H1 => ∃ c, x = .bl c ∧ if c = true then Q (.bl true) H1 else tb σ H1 Q) : tOrV ta tb σ H Q := h
theorem i_notV {ta : TE} (h : ta σ H fun x H1 => ∃ c, x = .bl c ∧ Q (.bl (!c)) H1) : tNotV ta σ H Q := h
theorem i_test {t : TE} (h : t σ H fun x H' => ∃ k, x = .bl k ∧ QB k H') : tTest t σ H QB := h
theorem i_B {t : TE} (h : t σ H fun x H' => ∃ k, x = .bl k ∧ QB k H') : tB t σ H QB := h
theorem i_tru {ta : TE} (h : ta σ H fun x H' => ∃ k, TruV K x H' k ∧ QB k H') : tTru K ta σ H QB := h
theorem i_truB {b : Bool} {R : Bool → Prop} (q : R b) : ∃ k, TruV K (.bl b) H k ∧ R k := ⟨b, rfl, q⟩
theorem i_truL {a : Addr} {xs : List V} {R : Bool → Prop} (h : SqL K H a xs) (q : R (!xs.isEmpty)) : ∃ k, TruV K (.ref a) H k ∧ R k := ⟨_, .inl ⟨xs, h, rfl⟩, q⟩
theorem i_truD {a : Addr} {kvs : List (Key × V)} {R : Bool → Prop} (h : H a = some (.dK kvs)) (q : R (!kvs.isEmpty)) : ∃ k, TruV K (.ref a) H k ∧ R k := ⟨_, .inr (.inr ⟨kvs, h, rfl⟩), q⟩
theorem i_bl {b : Bool} {R : Bool → Hp → Prop} (q : R b H) : ∃ k, V.bl b = .bl k ∧ R k H := ⟨b, rfl, q⟩
theorem i_blC {b : Bool} {R : Bool → Prop} (q : R b) : ∃ k, V.bl b = .bl k ∧ R k := ⟨b, rfl, q⟩
theorem i_not {t : TT} (h : t σ H fun c H1 => QB (!c) H1) : tNot t σ H QB := h
theorem i_and {t u : TT} (h : t σ H fun c H1 => if c = true then u σ H1 QB else QB false H1) : tAnd t u σ H QB := h
theorem i_or {t u : TT} (h : t σ H fun c H1 => if c = true then QB true H1 else u σ H1 QB) : tOr t u σ H QB := h
theorem i_if {t : TT} {ta tb : TE} (h : t σ H fun c H1 => if c = true then ta σ H1 Q else tb σ H1 Q) : tIf t ta tb σ H Q := h
theorem i_call {sp : Sp} {E' : XK} {t : TA} (h : t σ H fun vs H1 => sp (vs ++ []) H1 Q E') : tCall sp [] E' t σ H Q := h
theorem i_meth {C : Addr} {m : Str} {sp : Sp} {E' : XK} {ta : TE} {t : TA} (h : ta σ H fun x H1 => ∃ a dx fs, x = .ref a ∧ H1 a = some (.ins C dx fs) ∧ fs.lookup m = none ∧ t σ H1 fun vs H2 => sp (x :: (vs ++ [])) H2 Q E') : tMeth C m sp [] E' ta t σ H Q := h
theorem i_methIn {C a dx : Addr} {fs : List (Str × V)} {m : Str} {R : Prop} (h : H a = some (.ins C dx fs)) (l : fs.lookup m = none) (q : R) : ∃ a' dx fs, V.ref a = .ref a' ∧ H a' = some (.ins C dx fs) ∧ fs.lookup m = none ∧ R := ⟨a, dx, fs, rfl, h, l, q⟩
theorem i_make {C : Addr} {sp : Sp} {E' : XK} {t : TA} (h : t σ H fun vs H1 => ∀ x dx, H1 x = none → H1 dx = none → dx ≠ x → sp (.ref x :: (vs ++ [])) (upd (upd H1 dx (.own x)) x (.ins C dx [])) (fun v H2 => v = .non ∧ Q (.ref x) H2) E') : tMake C sp [] E' t σ H Q := h
theorem i_dnew (h : ∀ p, H p = none → Q (.ref p) (upd H p (.dK []))) : tDNewK σ H Q := h
theorem i_dget2 {td ty tx : TE} (h : td σ H fun x H1 => ∃ a, x = .ref a ∧ IsD H1 a ∧ ty σ H1 fun y H2 => tx σ H2 fun z H3 => ∃ o, DGet H3 a y o ∧ Q (o.getD z) H3) : tDGet2 td ty tx σ H Q := h
theorem i_din {td ty : TE} (h : ty σ H fun y H1 => td σ H1 fun x H2 => ∃ a o, x = .ref a ∧ DGet H2 a y o ∧ Q (.bl o.isSome) H2) : tDIn ty td σ H Q := h
theorem i_dput {td ty tv : TE} (h : tv σ H fun v H1 => td σ H1 fun x H2 => ty σ H2 fun y H3 => ∃ a H4, x = .ref a ∧ DPut H3 a y v H4 ∧ D.nx σ H4) : sDPut td ty tv D σ H := h
/-! ### operations on values -/
theorem i_addI {i j : Int} (q : Q (.int (i + j)) H) : rAddA K (.int i) (.int j) H Q := .inl ⟨i, j, rfl, rfl, q⟩
theorem i_addL {a b : Addr} {xs ys : List V} (ha : H a = some (.lst xs)) (hb : H b = some (.lst ys)) (hl : xs.length + ys.length ≤ sizeLine) (q : ∀ p, H p = none → Q (.ref p) (upd H p (.lst (xs ++ ys)))) : rAddA K (.ref a) (.ref b) H Q :=
  .inr (.inl ⟨a, b, xs, ys, rfl, rfl, ha, hb, hl, q⟩)
theorem i_addT {a b : Addr} {xs ys : List V} (ha : SqT K H a xs) (hb : SqT K H b ys) (hl : xs.length + ys.length ≤ sizeLine) (q1 : xs = [] → Q (.ref b) H) (q2 : xs ≠ [] → ys = [] → Q (.ref a) H)
    (q : xs ≠ [] → ys ≠ [] → ∀ p, H p = none → Q (.ref p) (upd H p (.tup (xs ++ ys)))) : rAddA K (.ref a) (.ref b) H Q := .inr (.inr ⟨a, b, xs, ys, rfl, rfl, ha, hb, hl, q1, q2, q⟩)
theorem i_addI2 {i j : Int} (q : Q (.int (i + j)) H) : rAdd (.int i) (.int j) H Q := ⟨i, j, rfl, rfl, q⟩
theorem i_subI {i j : Int} (q : Q (.int (i - j)) H) : rSubI (.int i) (.int j) H Q := ⟨i, j, rfl, rfl, q⟩
theorem i_mulI {i j : Int} (c : CMul i j) (q : Q (.int (i * j)) H) : rMulA K (.int i) (.int j) H Q := .inl ⟨i, j, rfl, rfl, c, q⟩
theorem i_repL {a : Addr} {k : Int} {xs : List V} (h : H a = some (.lst xs)) (h1 : -(2 ^ 63) ≤ k) (h2 : k < 2 ^ 63) (hz : xs.length * k.toNat ≤ sizeLine) (q : ∀ p, H p = none → Q (.ref p) (upd H p (.lst (List.replicate k.toNat xs).flatten))) :
    rMulA K (.ref a) (.int k) H Q := .inr (.inl ⟨a, k, xs, rfl, rfl, h, h1, h2, hz, q⟩)
theorem i_repT {a : Addr} {k : Int} {xs : List V} (h : SqT K H a xs) (hn : xs ≠ []) (h1 : 2 ≤ k) (h2 : k ≤ 1000) (hz : xs.length ≤ 1000) (q : ∀ p, H p = none → Q (.ref p) (upd H p (.tup (List.replicate k.toNat xs).flatten))) :
    rMulA K (.ref a) (.int k) H Q := .inr (.inr ⟨a, k, xs, rfl, rfl, h, hn, h1, h2, hz, q⟩)
theorem i_divI {i j : Int} (c : CDiv i j) (q : Q (.int (i / j)) H) : rDivI (.int i) (.int j) H Q := ⟨i, j, rfl, rfl, c, q⟩
theorem i_modI {i j : Int} (c : 0 < j) (q : Q (.int (i % j)) H) : rModI (.int i) (.int j) H Q := ⟨i, j, rfl, rfl, c, q⟩
theorem i_powI {i j : Int} (c : CPow i j) (q : Q (.int (i ^ j.toNat)) H) : rPowI (.int i) (.int j) H Q := ⟨i, j, rfl, rfl, c, q⟩
theorem i_ltI {i j : Int} (q : Q (.bl (decide (i < j))) H) : rLtI (.int i) (.int j) H Q := ⟨i, j, rfl, rfl, q⟩
theorem i_leI {i j : Int} (q : Q (.bl (decide (i ≤ j))) H) : rLeI (.int i) (.int j) H Q := ⟨i, j, rfl, rfl, q⟩
theorem i_gtI {i j : Int} (q : Q (.bl (decide (j < i))) H) : rGtI (.int i) (.int j) H Q := ⟨i, j, rfl, rfl, q⟩
theorem i_geI {i j : Int} (q : Q (.bl (decide (j ≤ i))) H) : rGeI (.int i) (.int j) H Q := ⟨i, j, rfl, rfl, q⟩
theorem i_isN {x : V} (q : Q (.bl (decide (x = .non))) H) : rIsN x .non H Q := ⟨rfl, q⟩
theorem i_notN {x : V} (q : Q (.bl (!decide (x = .non))) H) : rNotN x .non H Q := ⟨rfl, q⟩
theorem i_isB {a b : Bool} (q : Q (.bl (decide (a = b))) H) : rIsB (.bl a) (.bl b) H Q := ⟨a, b, rfl, rfl, q⟩
theorem i_notB {a b : Bool} (q : Q (.bl (!decide (a = b))) H) : rNotB (.bl a) (.bl b) H Q := ⟨a, b, rfl, rfl, q⟩
theorem i_ixL {p : Addr} {xs : List V} {i : Int} {v : V} (h : SqL K H p xs) (ha : atI xs i = some v) (q : Q v H) : rIx K (.ref p) (.int i) H Q := .inl ⟨p, xs, i, v, rfl, rfl, h, ha, q⟩
theorem i_ixT {p : Addr} {xs : List V} {i : Int} {v : V} (h : SqT K H p xs) (ha : atI xs i = some v) (q : Q v H) : rIx K (.ref p) (.int i) H Q := .inr (.inl ⟨p, xs, i, v, rfl, rfl, h, ha, q⟩)
theorem i_ixLn {p : Addr} {xs : List V} {i : Int} {v : V} (h : SqL K H p xs) (h0 : 0 ≤ i) (ha : xs[i.toNat]? = some v) (q : Q v H) : rIx K (.ref p) (.int i) H Q := i_ixL h (by rw [show i = ((i.toNat : Nat) : Int) by omega, atI_nat]; exact ha) q
theorem i_ixTn {p : Addr} {xs : List V} {i : Int} {v : V} (h : SqT K H p xs) (h0 : 0 ≤ i) (ha : xs[i.toNat]? = some v) (q : Q v H) : rIx K (.ref p) (.int i) H Q := i_ixT h (by rw [show i = ((i.toNat : Nat) : Int) by omega, atI_nat]; exact ha) q
theorem i_eqD {x y : V} {d e : PyData} (hd : Dp K H x d) (he : Dp K H y e) (sd : SeqAt.shaped d = true) (se : SeqAt.shaped e = true) (q : Q (.bl (PyData.eqv d e)) H) : rEqD K x y H Q := ⟨d, e, hd, he, sd, se, q⟩
theorem i_neD {x y : V} {d e : PyData} (hd : Dp K H x d) (he : Dp K H y e) (sd : SeqAt.shaped d = true) (se : SeqAt.shaped e = true) (q : Q (.bl (!PyData.eqv d e)) H) : rNeD K x y H Q := ⟨d, e, hd, he, sd, se, q⟩
theorem i_eqI {i j : Int} (q : Q (.bl (i == j)) H) : rEqD K (.int i) (.int j) H Q := ⟨.int i, .int j, .int i, .int j, rfl, rfl, q⟩
theorem i_neI {i j : Int} (q : Q (.bl (!(i == j))) H) : rNeD K (.int i) (.int j) H Q := ⟨.int i, .int j, .int i, .int j, rfl, rfl, q⟩
theorem i_eqS {i j : Str} (hi : SeqAt.shaped (.str i) = true) (hj : SeqAt.shaped (.str j) = true) (q : Q (.bl (i == j)) H) : rEqD K (.str i) (.str j) H Q := ⟨.str i, .str j, .str i, .str j, hi, hj, q⟩
theorem i_neS {i j : Str} (hi : SeqAt.shaped (.str i) = true) (hj : SeqAt.shaped (.str j) = true) (q : Q (.bl (!(i == j))) H) : rNeD K (.str i) (.str j) H Q := ⟨.str i, .str j, .str i, .str j, hi, hj, q⟩
theorem i_eqB {i j : Bool} (q : Q (.bl (i == j)) H) : rEqD K (.bl i) (.bl j) H Q := ⟨.bool i, .bool j, .bl i, .bl j, rfl, rfl, q⟩
theorem i_neB {i j : Bool} (q : Q (.bl (!(i == j))) H) : rNeD K (.bl i) (.bl j) H Q := ⟨.bool i, .bool j, .bl i, .bl j, rfl, rfl, q⟩
theorem i_lenL {p : Addr} {xs : List V} (h : SqL K H p xs) (q : Q (.int (xs.length : Int)) H) : rLenA K [.ref p] H Q := ⟨_, xs.length, rfl, .inl ⟨xs, h, rfl⟩, q⟩
theorem i_lenT {p : Addr} {xs : List V} (h : SqT K H p xs) (q : Q (.int (xs.length : Int)) H) : rLenA K [.ref p] H Q := ⟨_, xs.length, rfl, .inr ⟨xs, h, rfl⟩, q⟩
theorem i_absI {i : Int} (q : Q (.int (if i < 0 then -i else i)) H) : rAbsI [.int i] H Q := ⟨i, rfl, q⟩
theorem i_intI {i : Int} (q : Q (.int i) H) : rIntC [.int i] H Q := .inl ⟨i, rfl, q⟩
theorem i_intB {b : Bool} (q : Q (.int (if b then 1 else 0)) H) : rIntC [.bl b] H Q := .inr ⟨b, rfl, q⟩
theorem i_min2 {i j : Int} (q : Q (.int (if j < i then j else i)) H) : rMin2 [.int i, .int j] H Q := ⟨i, j, rfl, q⟩
theorem i_max2 {i j : Int} (q : Q (.int (if j > i then j else i)) H) : rMax2 [.int i, .int j] H Q := ⟨i, j, rfl, q⟩
theorem i_listL {p : Addr} {xs : List V} (h : SqL K H p xs) (q : ∀ l, H l = none → Q (.ref l) (upd H l (.lst xs))) : rListC K [.ref p] H Q := ⟨p, xs, rfl, .inl h, q⟩
theorem i_listT {p : Addr} {xs : List V} (h : SqT K H p xs) (q : ∀ l, H l = none → Q (.ref l) (upd H l (.lst xs))) : rListC K [.ref p] H Q := ⟨p, xs, rfl, .inr h, q⟩
theorem i_tupL {p : Addr} {xs : List V} (h : SqL K H p xs) (q : ∀ l, H l = none → Q (.ref l) (upd H l (.tup xs))) : rTupC K [.ref p] H Q := ⟨p, xs, rfl, .inl ⟨h, q⟩⟩
theorem i_tupT {p : Addr} {xs : List V} (h : SqT K H p xs) (q : Q (.ref p) H) : rTupC K [.ref p] H Q := ⟨p, xs, rfl, .inr ⟨h, q⟩⟩
theorem i_app {l : Addr} {xs : List V} {y : V} (h : H l = some (.lst xs)) (hz : xs.length < sizeLine) (q : Q .non (upd H l (.lst (xs ++ [y])))) : rAppend (.ref l) [y] H Q := ⟨l, xs, y, rfl, rfl, h, hz, q⟩
theorem i_popL {l : Addr} {xs : List V} {y : V} (h : H l = some (.lst xs)) (hy : xs[xs.length - 1]? = some y) (q : Q y (upd H l (.lst xs.dropLast))) : rPop (.ref l) [] H Q := ⟨l, xs, y, rfl, rfl, h, hy, q⟩
theorem i_tyL {l : Addr} {xs : List V} {R : Prop} (h : SqL K H l xs) (q : R) : tyV K "list" (.ref l) H ∧ R := ⟨.inl ⟨rfl, _, h⟩, q⟩
theorem i_all {a : Addr} {bs : List Bool} (h : SqL K H a (bs.map V.bl)) (q : Q (.bl (bs.all id)) H) : rAll K [.ref a] H Q := ⟨a, bs, rfl, h, q⟩
theorem i_any {a : Addr} {bs : List Bool} (h : SqL K H a (bs.map V.bl)) (q : Q (.bl (bs.any id)) H) : rAny K [.ref a] H Q := ⟨a, bs, rfl, h, q⟩
theorem i_ite2 {c : Bool} {A B : Prop} (h1 : c = true → A) (h2 : c = false → B) : if c = true then A else B := by
  cases c with
  | true => exact h1 rfl
  | false => exact iteF (h2 rfl)
theorem i_iteT {c : Bool} {A B : Prop} (hc : c = true) (h : A) : if c = true then A else B := by subst hc; exact h
theorem i_iteF {c : Bool} {A B : Prop} (hc : c = false) (h : B) : if c = true then A else B := by subst hc; exact iteF h
/-! ### what stands -/
/-- all that H knows stands but what lies in fp -/
def Stays (fp : List Addr) (H H' : Hp) : Prop := ∀ b o, H b = some o → b ∉ fp → H' b = some o
theorem Stays.refl {fp : List Addr} (H : Hp) : Stays fp H H := fun _ _ h _ => h
theorem Stays.trans {fp : List Addr} {H H1 H2 : Hp} (a : Stays fp H H1) (b : Stays fp H1 H2) : Stays fp H H2 := fun c o h n => b c o (a c o h n) n
theorem Stays.wide {fp gp : List Addr} {H H' : Hp} (a : Stays fp H H') (h : ∀ b, b ∈ fp → b ∈ gp) : Stays gp H H' := fun c o e n => a c o e fun m => n (h c m)
theorem Stays.same {fp : List Addr} {H H' : Hp} (a : Same H H') : Stays fp H H' := fun c o e _ => a c o e
theorem Stays.get {fp : List Addr} {H H' : Hp} (a : Stays fp H H') {b : Addr} {o : HO} (h : H b = some o) (n : b ∉ fp) : H' b = some o := a b o h n
theorem Stays.put {fp : List Addr} {H H' : Hp} (a : Stays fp H H') {p : Addr} {o : HO} (h : p ∈ fp) : Stays fp H (L2.upd H' p o) := fun b u e n => by
  have hb : b ≠ p := fun z => n (z ▸ h)
  rw [upd_ne hb]
  exact a b u e n
theorem Stays.new {fp : List Addr} {H H' : Hp} (a : Stays fp H H') {p : Addr} {o : HO} (h : H p = none) : Stays fp H (upd H' p o) := fun b u e n => by
  rw [upd_ne (ne_of_none e h)]
  exact a b u e n
theorem same_new {H H' : Hp} (a : Same H H') {p : Addr} {o : HO} (h : H p = none) : Same H (upd H' p o) := fun b u e => by
  rw [upd_ne (ne_of_none e h)]
  exact a b u e
theorem Stays.free {fp : List Addr} {H H' : Hp} (a : Stays fp H H') {p : Addr} (hf : p ∉ fp) (h : H' p = none) : H p = none := by
  cases e : H p with
  | none => rfl
  | some o => rw [a p o e hf] at h; cases h
theorem same_free {H H' : Hp} (a : Same H H') {p : Addr} (h : H' p = none) : H p = none := by
  cases e : H p with
  | none => rfl
  | some o => rw [a p o e] at h; cases h
theorem same_nx {H H' : Hp} (a : Same H H') {p : Addr} {o : HO} (h : H' p = none) : Same H (upd H' p o) := same_new a (same_free a h)
theorem ne_fresh {H : Hp} {a b : Addr} {o : HO} (h' : H b = none) (h : H a = some o) : a ≠ b := ne_of_none h h'
theorem upd_at {H : Hp} {a b : Addr} {o u : HO} (n : b ≠ a) (h : H b = some u) : upd H a o b = some u := by rw [upd_ne n]; exact h
theorem upd_no {H : Hp} {a b : Addr} {o : HO} (n : b ≠ a) (h : H b = none) : upd H a o b = none := by rw [upd_ne n]; exact h
theorem Same.get {H H' : Hp} (a : Same H H') {b : Addr} {o : HO} (h : H b = some o) : H' b = some o := a b o h
theorem sqL {K : PySem.W.Frag} {H : Hp} {a : Addr} {xs : List V} (h : H a = some (.lst xs)) : SqL K H a xs := SqL.of h
theorem sqT {K : PySem.W.Frag} {H : Hp} {a : Addr} {xs : List V} (h : H a = some (.tup xs)) : SqT K H a xs := SqT.of h
end Rb
/-! Rb: data that stands in the heap (Dp), what keeps it, isinstance, in, ==. -/
namespace Rb
open PySem PySem.Spec PyProof.Rows L2
variable {K : PySem.W.Frag} {σ : L2.St} {H H' : Hp} {Q : VK}
/-! ### tuples stay -/
def isTupO : HO → Bool
  | .tup _ => true
  | .frz _ (.tup _) => true
  | _ => false
/-- every tuple stands -/
def Keep (H H' : Hp) : Prop := ∀ a u, H a = some u → isTupO u = true → H' a = some u
theorem Keep.refl (H : Hp) : Keep H H := fun _ _ h _ => h
theorem Keep.trans {H H1 H2 : Hp} (a : Keep H H1) (b : Keep H1 H2) : Keep H H2 := fun c u h t => b c u (a c u h t) t
theorem Keep.same (s : Same H H') : Keep H H' := fun a u h _ => s a u h
theorem Keep.stays {fp : List Addr} (s : Stays fp H H') (n : ∀ a ∈ fp, ∀ u, H a = some u → isTupO u = false) : Keep H H' := fun a u h t => s a u h fun m => by
  rw [n a m u h] at t
  cases t
theorem Keep.upd (k : Keep H H') {p : Addr} {o : HO} (n : ∀ u, H p = some u → isTupO u = false) : Keep H (L2.upd H' p o) := fun a u h t => by
  have hb : a ≠ p := fun z => by
    subst z
    rw [n u h] at t
    cases t
  rw [upd_ne hb]
  exact k a u h t
theorem Keep.new (k : Keep H H') {p : Addr} {o : HO} (h : H p = none) : Keep H (L2.upd H' p o) := k.upd fun u e => by rw [h] at e; cases e
theorem Keep.rd (k : Keep H H') {a : Addr} {xs : List V} (h : Rd H a (.tup xs)) : Rd H' a (.tup xs) := by
  rcases h with h | ⟨o, h⟩
  · exact .inl (k a _ h rfl)
  · exact .inr ⟨o, k a _ h rfl⟩
theorem Keep.sq (k : Keep H H') {a : Addr} {xs : List V} (h : SqT K H a xs) : SqT K H' a xs := by
  rcases h with h | h
  · exact .inl (k.rd h)
  · exact .inr h
mutual
/-- no list and no dict within -/
def tupOnly : PyData → Bool
  | .none | .bool _ | .int _ | .str _ => true
  | .tuple xs => tupAll xs
  | .list _ | .dict _ => false
def tupAll : List PyData → Bool
  | [] => true
  | x :: xs => tupOnly x && tupAll xs
end
mutual
theorem Dp.keep (k : Keep H H') : ∀ (d : PyData) (v : V), Dp K H v d → tupOnly d = true → Dp K H' v d
  | .none, _, h, _ => by cases h; exact .non
  | .bool b, _, h, _ => by cases h; exact .bl b
  | .int i, _, h, _ => by cases h; exact .int i
  | .str x, _, h, _ => by cases h; exact .str x
  | .list ds, _, _, t => by cases t
  | .dict _, _, _, t => by cases t
  | .tuple ds, _, h, t => by
    cases h with
    | tup hs ha => exact .tup (k.sq hs) (DpAll.keep k ds _ ha t)
theorem DpAll.keep (k : Keep H H') : ∀ (ds : List PyData) (vs : List V), DpAll K H vs ds → tupAll ds = true → DpAll K H' vs ds
  | [], _, h, _ => by cases h; exact .nil
  | d :: ds, _, h, t => by
    have t' : (tupOnly d && tupAll ds) = true := t
    rw [Bool.and_eq_true] at t'
    cases h with
    | cons h1 h2 => exact .cons (Dp.keep k d _ h1 t'.1) (DpAll.keep k ds _ h2 t'.2)
end
theorem sqL_same {H H' : Hp} (s : Same H H') {a : Addr} {xs : List V} (h : SqL K H a xs) : SqL K H' a xs := s.seq h
mutual
/-- where all stands -/
theorem Dp.same (s : Same H H') : ∀ (d : PyData) (v : V), Dp K H v d → Dp K H' v d
  | .none, _, h => by cases h; exact .non
  | .bool b, _, h => by cases h; exact .bl b
  | .int i, _, h => by cases h; exact .int i
  | .str x, _, h => by cases h; exact .str x
  | .list ds, _, h => by
    cases h with
    | lst hs ha => exact .lst (s.seq hs) (DpAll.same s ds _ ha)
  | .dict _, _, h => by cases h
  | .tuple ds, _, h => by
    cases h with
    | tup hs ha => exact .tup ((Keep.same s).sq hs) (DpAll.same s ds _ ha)
theorem DpAll.same (s : Same H H') : ∀ (ds : List PyData) (vs : List V), DpAll K H vs ds → DpAll K H' vs ds
  | [], _, h => by cases h; exact .nil
  | d :: ds, _, h => by
    cases h with
    | cons h1 h2 => exact .cons (Dp.same s d _ h1) (DpAll.same s ds _ h2)
end
theorem DpAll.length : ∀ {vs : List V} {ds : List PyData}, DpAll K H vs ds → vs.length = ds.length
  | _, _, .nil => rfl
  | _, _, .cons _ t => congrArg Nat.succ (DpAll.length t)
theorem DpAll.get : ∀ {vs : List V} {ds : List PyData} {i : Nat} {v : V}, DpAll K H vs ds → vs[i]? = some v → ∃ d, ds[i]? = some d ∧ Dp K H v d
  | _, _, _, _, .nil, e => by simp at e
  | _, _, 0, _, .cons h _, e => by simp at e; subst e; exact ⟨_, rfl, h⟩
  | _, _, i + 1, v, .cons _ t, e => by
    obtain ⟨d, h1, h2⟩ := DpAll.get (i := i) (v := v) t (by simpa using e)
    exact ⟨d, by simpa using h1, h2⟩
theorem DpAll.getD : ∀ {vs : List V} {ds : List PyData} {i : Nat} {d : PyData}, DpAll K H vs ds → ds[i]? = some d → ∃ v, vs[i]? = some v ∧ Dp K H v d
  | _, _, _, _, .nil, e => by simp at e
  | _, _, 0, _, .cons h _, e => by simp at e; subst e; exact ⟨_, rfl, h⟩
  | _, _, i + 1, d, .cons _ t, e => by
    obtain ⟨v, h1, h2⟩ := DpAll.getD (i := i) (d := d) t (by simpa using e)
    exact ⟨v, by simpa using h1, h2⟩
theorem DpAll.app : ∀ {vs ws : List V} {ds es : List PyData}, DpAll K H vs ds → DpAll K H ws es → DpAll K H (vs ++ ws) (ds ++ es)
  | _, _, _, _, .nil, h => h
  | _, _, _, _, .cons a t, h => .cons a (DpAll.app t h)
theorem DpAll.set : ∀ {vs : List V} {ds : List PyData} (i : Nat) {v : V} {d : PyData}, DpAll K H vs ds → Dp K H v d → DpAll K H (vs.set i v) (ds.set i d)
  | _, _, _, _, _, .nil, _ => .nil
  | _, _, 0, _, _, .cons _ t, h => .cons h t
  | _, _, i + 1, _, _, .cons a t, h => .cons a (DpAll.set i t h)
theorem DpAll.take : ∀ {vs : List V} {ds : List PyData} (n : Nat), DpAll K H vs ds → DpAll K H (vs.take n) (ds.take n)
  | _, _, 0, _ => .nil
  | _, _, _ + 1, .nil => .nil
  | _, _, n + 1, .cons a t => .cons a (DpAll.take n t)
theorem DpAll.drop : ∀ {vs : List V} {ds : List PyData} (n : Nat), DpAll K H vs ds → DpAll K H (vs.drop n) (ds.drop n)
  | _, _, 0, r => r
  | _, _, _ + 1, .nil => .nil
  | _, _, n + 1, .cons _ t => DpAll.drop n t
theorem DpAll.rep {v : V} {d : PyData} (h : Dp K H v d) : ∀ n : Nat, DpAll K H (List.replicate n v) (List.replicate n d)
  | 0 => .nil
  | n + 1 => .cons h (DpAll.rep h n)
theorem DpAll.ints : ∀ ns : List Int, DpAll K H (ns.map V.int) (ns.map PyData.int)
  | [] => .nil
  | n :: ns => .cons (.int n) (DpAll.ints ns)
/-- a tuple's data -/
theorem Dp.tupOf {v : V} {ds : List PyData} (h : Dp K H v (.tuple ds)) : ∃ a xs, v = .ref a ∧ SqT K H a xs ∧ DpAll K H xs ds := by
  cases h with
  | tup hs ha => exact ⟨_, _, rfl, hs, ha⟩
theorem Dp.intOf {v : V} {i : Int} (h : Dp K H v (.int i)) : v = .int i := by cases h; rfl
theorem Dp.strOf {v : V} {x : Str} (h : Dp K H v (.str x)) : v = .str x := by cases h; rfl
theorem Dp.nonOf {v : V} (h : Dp K H v .none) : v = .non := by cases h; rfl
theorem Dp.blOf {v : V} {b : Bool} (h : Dp K H v (.bool b)) : v = .bl b := by cases h; rfl
/-! ### isinstance -/
def tyN : PyData → String
  | .none => "NoneType" | .bool _ => "bool" | .int _ => "int" | .str _ => "str" | .list _ => "list" | .tuple _ => "tuple" | .dict _ => "dict"
theorem Dp.ty {v : V} {d : PyData} (h : Dp K H v d) : TyX K H v (.type (tyN d)) := by
  cases h with
  | non => exact .base .non
  | bl b => exact .base (.bl b)
  | int i => exact .base (.int i)
  | str x => exact .base (.str x)
  | lst hs _ =>
    rcases hs with (h | ⟨o, h⟩) | ⟨o, its, n, hk, hc, _⟩
    · exact .base (.lst h)
    · exact .base (.frz h)
    · exact .kList hk hc
  | tup hs _ =>
    rcases hs with (h | ⟨o, h⟩) | ⟨o, its, n, hk, hc, _⟩
    · exact .base (.tup h)
    · exact .fTuple h
    · exact .kTuple hk hc
def instB (d : PyData) (n : String) : Bool := match d, n with
  | .bool _, "int" => true
  | .bool _, "bool" => true
  | .int _, "int" => true
  | .str _, "str" => true
  | .list _, "list" => true
  | .tuple _, "tuple" => true
  | _, _ => false
theorem i_isi {v : V} {d : PyData} {n : String} (h : Dp K H v d) (e : PySem.W.kitOne K (.type (tyN d)) (.type n) = some (instB d n)) (q : Q (.bl (instB d n)) H) : rIsi K [v, .ty n] H Q :=
  ⟨v, .ty n, _, _, _, rfl, .ty n, Dp.ty h, e, q⟩
theorem kit_int (d : PyData) : PySem.W.kitOne K (.type (tyN d)) (.type "int") = some (instB d "int") := by
  cases d with
  | none => exact kit_ty (show kitB "NoneType" "int" = some false by decide +kernel)
  | bool _ => exact kit_ty (show kitB "bool" "int" = some true by decide +kernel)
  | int _ => exact kit_ty (show kitB "int" "int" = some true by decide +kernel)
  | str _ => exact kit_ty (show kitB "str" "int" = some false by decide +kernel)
  | list _ => exact kit_ty (show kitB "list" "int" = some false by decide +kernel)
  | tuple _ => exact kit_ty (show kitB "tuple" "int" = some false by decide +kernel)
  | dict _ => exact kit_ty (show kitB "dict" "int" = some false by decide +kernel)
theorem kit_bool (d : PyData) : PySem.W.kitOne K (.type (tyN d)) (.type "bool") = some (instB d "bool") := by
  cases d with
  | none => exact kit_ty (show kitB "NoneType" "bool" = some false by decide +kernel)
  | bool _ => exact kit_ty (show kitB "bool" "bool" = some true by decide +kernel)
  | int _ => exact kit_ty (show kitB "int" "bool" = some false by decide +kernel)
  | str _ => exact kit_ty (show kitB "str" "bool" = some false by decide +kernel)
  | list _ => exact kit_ty (show kitB "list" "bool" = some false by decide +kernel)
  | tuple _ => exact kit_ty (show kitB "tuple" "bool" = some false by decide +kernel)
  | dict _ => exact kit_ty (show kitB "dict" "bool" = some false by decide +kernel)
theorem kit_str (d : PyData) : PySem.W.kitOne K (.type (tyN d)) (.type "str") = some (instB d "str") := by
  cases d with
  | none => exact kit_ty (show kitB "NoneType" "str" = some false by decide +kernel)
  | bool _ => exact kit_ty (show kitB "bool" "str" = some false by decide +kernel)
  | int _ => exact kit_ty (show kitB "int" "str" = some false by decide +kernel)
  | str _ => exact kit_ty (show kitB "str" "str" = some true by decide +kernel)
  | list _ => exact kit_ty (show kitB "list" "str" = some false by decide +kernel)
  | tuple _ => exact kit_ty (show kitB "tuple" "str" = some false by decide +kernel)
  | dict _ => exact kit_ty (show kitB "dict" "str" = some false by decide +kernel)
theorem kit_tuple (d : PyData) : PySem.W.kitOne K (.type (tyN d)) (.type "tuple") = some (instB d "tuple") := by
  cases d with
  | none => exact kit_ty (show kitB "NoneType" "tuple" = some false by decide +kernel)
  | bool _ => exact kit_ty (show kitB "bool" "tuple" = some false by decide +kernel)
  | int _ => exact kit_ty (show kitB "int" "tuple" = some false by decide +kernel)
  | str _ => exact kit_ty (show kitB "str" "tuple" = some false by decide +kernel)
  | list _ => exact kit_ty (show kitB "list" "tuple" = some false by decide +kernel)
  | tuple _ => exact kit_ty (show kitB "tuple" "tuple" = some true by decide +kernel)
  | dict _ => exact kit_ty (show kitB "dict" "tuple" = some false by decide +kernel)
theorem kit_list (d : PyData) : PySem.W.kitOne K (.type (tyN d)) (.type "list") = some (instB d "list") := by
  cases d with
  | none => exact kit_ty (show kitB "NoneType" "list" = some false by decide +kernel)
  | bool _ => exact kit_ty (show kitB "bool" "list" = some false by decide +kernel)
  | int _ => exact kit_ty (show kitB "int" "list" = some false by decide +kernel)
  | str _ => exact kit_ty (show kitB "str" "list" = some false by decide +kernel)
  | list _ => exact kit_ty (show kitB "list" "list" = some true by decide +kernel)
  | tuple _ => exact kit_ty (show kitB "tuple" "list" = some false by decide +kernel)
  | dict _ => exact kit_ty (show kitB "dict" "list" = some false by decide +kernel)
theorem i_isiInt {v : V} {d : PyData} (h : Dp K H v d) (q : Q (.bl (instB d "int")) H) : rIsi K [v, .ty "int"] H Q := i_isi h (kit_int d) q
theorem i_isiBool {v : V} {d : PyData} (h : Dp K H v d) (q : Q (.bl (instB d "bool")) H) : rIsi K [v, .ty "bool"] H Q := i_isi h (kit_bool d) q
theorem i_isiStr {v : V} {d : PyData} (h : Dp K H v d) (q : Q (.bl (instB d "str")) H) : rIsi K [v, .ty "str"] H Q := i_isi h (kit_str d) q
theorem i_isiTup {v : V} {d : PyData} (h : Dp K H v d) (q : Q (.bl (instB d "tuple")) H) : rIsi K [v, .ty "tuple"] H Q := i_isi h (kit_tuple d) q
theorem i_isiList {v : V} {d : PyData} (h : Dp K H v d) (q : Q (.bl (instB d "list")) H) : rIsi K [v, .ty "list"] H Q := i_isi h (kit_list d) q
/-! ### shapes -/
theorem shaped_int (i : Int) : SeqAt.shaped (.int i) = true := rfl
theorem shaped_none : SeqAt.shaped .none = true := rfl
theorem shaped_bool (b : Bool) : SeqAt.shaped (.bool b) = true := rfl
/-! ### slices of tuples -/
theorem cut_take (xs : List V) (n : Nat) (h : n ≤ xs.length) : cutV xs none (some (n : Int)) = xs.take n := by
  unfold cutV
  rw [HT.sIx_none, HT.sIx_nat, List.drop_zero, Nat.sub_zero, Nat.min_eq_left h]
theorem cut_drop (xs : List V) (n : Nat) (h : n ≤ xs.length) : cutV xs (some (n : Int)) none = xs.drop n := by
  unfold cutV
  rw [HT.sIx_none, HT.sIx_nat, Nat.min_eq_left h]
  exact List.take_of_length_le (by simp)
theorem i_slTake {a : Addr} {xs : List V} {n : Nat} (hs : SqT K H a xs) (h : n ≤ xs.length) (q : ∀ (p : Addr) (H' : Hp), Same H H' → SqT K H' p (xs.take n) → Q (.ref p) H') : rSlX K (.ref a) none (some (n : Int)) H Q := by
  refine .inr ⟨a, xs, rfl, hs, fun w => ?_, fun _ p hp => ?_⟩
  · obtain ⟨_, w2⟩ := w
    rw [HT.sIx_nat, Nat.min_eq_left h] at w2
    exact q a H (Same.refl H) (by rw [w2, List.take_length]; exact hs)
  · rw [cut_take xs n h]
    exact q p _ (same_new (Same.refl H) hp) (sqT upd_same)
theorem i_slDrop {a : Addr} {xs : List V} {n : Nat} (hs : SqT K H a xs) (h : n ≤ xs.length) (q : ∀ (p : Addr) (H' : Hp), Same H H' → SqT K H' p (xs.drop n) → Q (.ref p) H') : rSlX K (.ref a) (some (n : Int)) none H Q := by
  refine .inr ⟨a, xs, rfl, hs, fun w => ?_, fun _ p hp => ?_⟩
  · obtain ⟨w1, _⟩ := w
    rw [HT.sIx_nat, Nat.min_eq_left h] at w1
    exact q a H (Same.refl H) (by rw [w1, List.drop_zero]; exact hs)
  · rw [cut_drop xs n h]
    exact q p _ (same_new (Same.refl H) hp) (sqT upd_same)
/-- t + u -/
theorem i_catT {a b : Addr} {xs ys : List V} (ha : SqT K H a xs) (hb : SqT K H b ys) (hl : xs.length + ys.length ≤ sizeLine) (q : ∀ (p : Addr) (H' : Hp), Same H H' → SqT K H' p (xs ++ ys) → Q (.ref p) H') : rAddA K (.ref a) (.ref b) H Q := by
  refine i_addT ha hb hl (fun e => ?_) (fun _ e => ?_) fun _ _ p hp => ?_
  · subst e
    exact q b H (Same.refl H) hb
  · subst e
    exact q a H (Same.refl H) (by rw [List.append_nil]; exact ha)
  · exact q p _ (same_new (Same.refl H) hp) (sqT upd_same)
/-! ### shapes, step by step -/
def Sh (n : Nat) (d : PyData) : Prop := d.canLay0 = true ∧ d.depth ≤ n
theorem Sh.shaped {n : Nat} {d : PyData} (h : Sh n d) (hn : n ≤ 64) : SeqAt.shaped d = true := by
  unfold SeqAt.shaped
  rw [h.1, decide_eq_true (Nat.le_trans h.2 hn)]
  rfl
theorem Sh.refl {n : Nat} {d : PyData} (h : Sh n d) : PyData.eqv d d = true := SeqAt.eqv_refl d h.1
theorem Sh.int {n : Nat} (i : Int) : Sh (n + 1) (.int i) := ⟨by simp [PyData.canLay0], by simp [PyData.depth]⟩
theorem Sh.none {n : Nat} : Sh (n + 1) .none := ⟨by simp [PyData.canLay0], by simp [PyData.depth]⟩
theorem Sh.bool {n : Nat} (b : Bool) : Sh (n + 1) (.bool b) := ⟨by simp [PyData.canLay0], by simp [PyData.depth]⟩
theorem Sh.str {n : Nat} (x : Str) (h : (PyData.str x).canLay0 = true) : Sh (n + 1) (.str x) := ⟨h, by simp [PyData.depth]⟩
theorem Sh.all {n : Nat} : ∀ ds : List PyData, (∀ d ∈ ds, Sh n d) → PyData.canLayAll0 ds = true ∧ PyData.depthAll ds ≤ n
  | [], _ => ⟨by simp [PyData.canLayAll0], by simp [PyData.depthAll]⟩
  | d :: ds, h => by
    have h1 := h d (by simp)
    have h2 := Sh.all ds fun e m => h e (by simp [m])
    refine ⟨by simp [PyData.canLayAll0, h1.1, h2.1], ?_⟩
    have a := h1.2
    have b := h2.2
    simp only [PyData.depthAll]
    omega
theorem Sh.tup {n : Nat} {ds : List PyData} (h : ∀ d ∈ ds, Sh n d) : Sh (n + 1) (.tuple ds) := by
  have a := Sh.all ds h
  refine ⟨by simp [PyData.canLay0, a.1], ?_⟩
  have b := a.2
  simp only [PyData.depth]
  omega
theorem Sh.lst {n : Nat} {ds : List PyData} (h : ∀ d ∈ ds, Sh n d) : Sh (n + 1) (.list ds) := by
  have a := Sh.all ds h
  refine ⟨by simp [PyData.canLay0, a.1], ?_⟩
  have b := a.2
  simp only [PyData.depth]
  omega
theorem Sh.mono {m n : Nat} {d : PyData} (h : Sh m d) (k : m ≤ n) : Sh n d := ⟨h.1, Nat.le_trans h.2 k⟩
theorem Sh.tup1 {n : Nat} {a : PyData} (ha : Sh n a) : Sh (n + 1) (.tuple [a]) := Sh.tup (by simp [ha])
theorem Sh.tup2 {n : Nat} {a b : PyData} (ha : Sh n a) (hb : Sh n b) : Sh (n + 1) (.tuple [a, b]) := Sh.tup (by simp [ha, hb])
theorem Sh.tup3 {n : Nat} {a b c : PyData} (ha : Sh n a) (hb : Sh n b) (hc : Sh n c) : Sh (n + 1) (.tuple [a, b, c]) := Sh.tup (by simp [ha, hb, hc])
/-! ### data of a known length -/
theorem Dp.lstOf {v : V} {ds : List PyData} (h : Dp K H v (.list ds)) : ∃ a xs, v = .ref a ∧ SqL K H a xs ∧ DpAll K H xs ds := by
  cases h with
  | lst hs ha => exact ⟨_, _, rfl, hs, ha⟩
theorem DpAll.one {xs : List V} {a : PyData} (h : DpAll K H xs [a]) : ∃ x, xs = [x] ∧ Dp K H x a := by
  obtain _ | ⟨h0, _ | _⟩ := h
  exact ⟨_, rfl, h0⟩
theorem DpAll.two {xs : List V} {a b : PyData} (h : DpAll K H xs [a, b]) : ∃ x y, xs = [x, y] ∧ Dp K H x a ∧ Dp K H y b := by
  obtain _ | ⟨h0, _ | ⟨h1, _ | _⟩⟩ := h
  exact ⟨_, _, rfl, h0, h1⟩
theorem DpAll.three {xs : List V} {a b c : PyData} (h : DpAll K H xs [a, b, c]) : ∃ x y z, xs = [x, y, z] ∧ Dp K H x a ∧ Dp K H y b ∧ Dp K H z c := by
  obtain _ | ⟨h0, _ | ⟨h1, _ | ⟨h2, _ | _⟩⟩⟩ := h
  exact ⟨_, _, _, rfl, h0, h1, h2⟩
theorem DpAll.four {xs : List V} {a b c d : PyData} (h : DpAll K H xs [a, b, c, d]) : ∃ x y z w, xs = [x, y, z, w] ∧ Dp K H x a ∧ Dp K H y b ∧ Dp K H z c ∧ Dp K H w d := by
  obtain _ | ⟨h0, _ | ⟨h1, _ | ⟨h2, _ | ⟨h3, _ | _⟩⟩⟩⟩ := h
  exact ⟨_, _, _, _, rfl, h0, h1, h2, h3⟩
theorem DpAll.five {xs : List V} {a b c d e : PyData} (h : DpAll K H xs [a, b, c, d, e]) : ∃ x y z w u, xs = [x, y, z, w, u] ∧ Dp K H x a ∧ Dp K H y b ∧ Dp K H z c ∧ Dp K H w d ∧ Dp K H u e := by
  obtain _ | ⟨h0, _ | ⟨h1, _ | ⟨h2, _ | ⟨h3, _ | ⟨h4, _ | _⟩⟩⟩⟩⟩ := h
  exact ⟨_, _, _, _, _, rfl, h0, h1, h2, h3, h4⟩
/-! ### in a row of flat values -/
theorem i_inT {a : Addr} {x : V} {xs : List V} (h : SqT K H a xs) (fx : flatV x = true) (fs : xs.all flatV = true) (q : Q (.bl (inV x xs)) H) : rInA K x (.ref a) H Q := .inl ⟨a, xs, rfl, .inr h, fx, fs, q⟩
theorem i_inL {a : Addr} {x : V} {xs : List V} (h : SqL K H a xs) (fx : flatV x = true) (fs : xs.all flatV = true) (q : Q (.bl (inV x xs)) H) : rInA K x (.ref a) H Q := .inl ⟨a, xs, rfl, .inl h, fx, fs, q⟩
theorem i_niT {a : Addr} {x : V} {xs : List V} (h : SqT K H a xs) (fx : flatV x = true) (fs : xs.all flatV = true) (q : Q (.bl (!inV x xs)) H) : rNiA K x (.ref a) H Q := .inl ⟨a, xs, rfl, .inr h, fx, fs, q⟩
theorem i_niL {a : Addr} {x : V} {xs : List V} (h : SqL K H a xs) (fx : flatV x = true) (fs : xs.all flatV = true) (q : Q (.bl (!inV x xs)) H) : rNiA K x (.ref a) H Q := .inl ⟨a, xs, rfl, .inl h, fx, fs, q⟩
/-! ### whole numbers within bounds -/
def isI : PyData → Bool
  | .int _ => true
  | _ => false
theorem isI_of {d : PyData} (h : isI d = true) : ∃ i, d = .int i := by cases d <;> first | exact ⟨_, rfl⟩ | cases h
theorem isI_inst {d : PyData} (h : instB d "int" = true) (k : (!instB d "bool") = true) : ∃ i, d = .int i := by
  cases d with
  | int i => exact ⟨i, rfl⟩
  | bool b => cases k
  | none => cases h
  | str x => cases h
  | list ds => cases h
  | tuple ds => cases h
  | dict ds => cases h
theorem inst_isI (d : PyData) : (if instB d "int" = true then !instB d "bool" else false) = isI d := by cases d <;> rfl
def within (d : PyData) (lo hi : Int) : Bool := match d with
  | .int i => decide (lo ≤ i) && decide (i ≤ hi)
  | _ => false
theorem within_of {d : PyData} {lo hi : Int} (h : within d lo hi = true) : ∃ i, d = .int i ∧ lo ≤ i ∧ i ≤ hi := by
  cases d with
  | int i =>
    have h' : (decide (lo ≤ i) && decide (i ≤ hi)) = true := h
    rw [Bool.and_eq_true] at h'
    exact ⟨i, rfl, of_decide_eq_true h'.1, of_decide_eq_true h'.2⟩
  | _ => cases h
theorem within_no {d : PyData} {lo hi : Int} (h : isI d = false) : within d lo hi = false := by cases d <;> first | rfl | cases h
def cnt (d : PyData) : Bool := match d with
  | .int i => decide (0 ≤ i)
  | _ => false
theorem cnt_of {d : PyData} (h : cnt d = true) : ∃ i, d = .int i ∧ 0 ≤ i := by
  cases d with
  | int i => exact ⟨i, rfl, of_decide_eq_true h⟩
  | _ => cases h
theorem tup_of {d : PyData} (h : instB d "tuple" = true) : ∃ ds, d = .tuple ds := by cases d <;> first | exact ⟨_, rfl⟩ | cases h
theorem str_of {d : PyData} (h : instB d "str" = true) : ∃ x, d = .str x := by cases d <;> first | exact ⟨_, rfl⟩ | cases h
def shAll (ds : List PyData) : Prop := ∀ d ∈ ds, SeqAt.shaped d = true
/-! ### t[:-1]; a place of a list or a tuple -/
theorem cut_init (xs : List V) (h : 1 ≤ xs.length) : cutV xs none (some (-1)) = xs.take (xs.length - 1) := by
  have e : HT.sIx xs.length xs.length (some (-1)) = xs.length - 1 := by
    show (if (-1 : Int) < 0 then ((-1 : Int) + (xs.length : Int)).toNat else min (-1 : Int).toNat xs.length) = _
    rw [if_pos (by decide)]
    omega
  unfold cutV
  rw [HT.sIx_none, e, List.drop_zero, Nat.sub_zero]
theorem i_slInit {a : Addr} {xs : List V} (hs : SqT K H a xs) (h : 1 ≤ xs.length) (q : ∀ (p : Addr) (H' : Hp), Same H H' → SqT K H' p (xs.take (xs.length - 1)) → Q (.ref p) H') : rSlX K (.ref a) none (some (-1)) H Q := by
  have e : HT.sIx xs.length xs.length (some (-1)) = xs.length - 1 := by
    show (if (-1 : Int) < 0 then ((-1 : Int) + (xs.length : Int)).toNat else min (-1 : Int).toNat xs.length) = _
    rw [if_pos (by decide)]
    omega
  refine .inr ⟨a, xs, rfl, hs, fun w => ?_, fun _ p hp => ?_⟩
  · obtain ⟨_, w2⟩ := w
    rw [e] at w2
    omega
  · rw [cut_init xs h]
    exact q p _ (same_new (Same.refl H) hp) (sqT upd_same)
theorem i_ixS {p : Addr} {xs : List V} {i : Int} {v : V} (h : SqL K H p xs ∨ SqT K H p xs) (h0 : 0 ≤ i) (ha : xs[i.toNat]? = some v) (q : Q v H) : rIx K (.ref p) (.int i) H Q := h.elim (fun h => i_ixLn h h0 ha q) fun h => i_ixTn h h0 ha q
theorem sqS_same {H H' : Hp} (s : Same H H') {p : Addr} {xs : List V} (h : SqL K H p xs ∨ SqT K H p xs) : SqL K H' p xs ∨ SqT K H' p xs := h.imp (sqL_same s) (Keep.same s).sq
theorem i_neR {x y : V} {d : PyData} {n : Nat} (hd : Dp K H x d) (he : Dp K H y d) (sd : Sh n d) (hn : n ≤ 64) (q : Q (.bl false) H) : rNeD K x y H Q := i_neD hd he (sd.shaped hn) (sd.shaped hn) (by rw [sd.refl]; exact q)
theorem i_eqR {x y : V} {d : PyData} {n : Nat} (hd : Dp K H x d) (he : Dp K H y d) (sd : Sh n d) (hn : n ≤ 64) (q : Q (.bl true) H) : rEqD K x y H Q := i_eqD hd he (sd.shaped hn) (sd.shaped hn) (by rw [sd.refl]; exact q)
theorem Sh.of {d : PyData} (h : SeqAt.shaped d = true) : Sh 64 d := by
  unfold SeqAt.shaped at h
  rw [Bool.and_eq_true] at h
  exact ⟨h.1, of_decide_eq_true h.2⟩
/-- what a refusal is told as -/
def refD : PyData := .list [.str "refused", .bool true]
theorem sh_ref : Sh 2 refD := ⟨by decide +kernel, by decide +kernel⟩
/-- 0, 1, .., n - 1 -/
def rangeL (n : Nat) : List V := (List.range n).map fun i : Nat => V.int (i : Int)
theorem rangeL_len (n : Nat) : (rangeL n).length = n := by simp [rangeL]
theorem rangeL_succ (n : Nat) : rangeL (n + 1) = rangeL n ++ [.int (n : Int)] := by simp [rangeL, List.range_succ]
theorem rangeL_dp (n : Nat) : DpAll K H (rangeL n) ((List.range n).map fun i : Nat => PyData.int (i : Int)) := by
  induction n with
  | zero => exact .nil
  | succ n ih =>
    rw [rangeL_succ, List.range_succ, List.map_append]
    exact DpAll.app ih (.cons (.int _) .nil)
theorem range_sh (n : Nat) : Sh 2 (.list ((List.range n).map fun i : Nat => PyData.int (i : Int))) := Sh.lst fun d m => by
  obtain ⟨i, _, rfl⟩ := List.mem_map.mp m
  exact Sh.int _
end Rb
/-! Rb: loops and comprehensions by an invariant of the turn. -/
namespace Rb
open PySem PySem.Spec PyProof.Rows L2
variable {K : PySem.W.Frag} {σ : L2.St} {H : Hp} {D : Ends} {Q : VK} {E : XK}
theorem i_for {wi : TI} {g : TG} {tb : TS} (h : wi σ H fun J H1 => ∃ W : Nat → Nat → L2.St → Hp → Prop, (∃ m, W 0 m σ H1) ∧ ∀ (i m : Nat) (σ : L2.St) (H : Hp), W i m σ H → J.stop i H ∧ D.nx σ H ∨ J.go i H ∧ ∃ N : L2.St → Hp → Prop, (∀ σ' H', N σ' H' → ∃ m', m' < m ∧ W (i + 1) m' σ' H') ∧
    ∀ x H', J.yld i H x H' → g x σ H' fun σ2 H2 => tb { nx := N, rt := D.rt, bk := D.nx, ct := N } σ2 H2) : tFor wi g tb D σ H := h
theorem i_lock {t : TS} (h : tLock t D σ H) : tLock t D σ H := h
theorem i_rng1 {ta : TA} {R : It → Hp → Prop} (h : ta σ H fun vs H1 => ∃ j : Int, vs = [.int j] ∧ -(2 ^ 62) ≤ j ∧ j < 2 ^ 62 ∧ R (Itr 0 j.toNat) H1) : iRng1 ta σ H R := h
theorem i_rng1In {n : Int} {R : Int → Prop} (h1 : -(2 ^ 62) ≤ n) (h2 : n < 2 ^ 62) (q : R n) : ∃ j : Int, [V.int n] = [.int j] ∧ -(2 ^ 62) ≤ j ∧ j < 2 ^ 62 ∧ R j := ⟨n, rfl, h1, h2, q⟩
theorem i_rng2 {ta : TA} {R : It → Hp → Prop} (h : ta σ H fun vs H1 => ∃ i j : Int, vs = [.int i, .int j] ∧ (-(2 ^ 62) ≤ i ∧ i < 2 ^ 62 ∧ -(2 ^ 62) ≤ j ∧ j < 2 ^ 62) ∧ R (Itr i (j - i).toNat) H1) : iRng2 ta σ H R := h
theorem i_rng2In {i j : Int} {R : Int → Int → Prop} (h : -(2 ^ 62) ≤ i ∧ i < 2 ^ 62 ∧ -(2 ^ 62) ≤ j ∧ j < 2 ^ 62) (q : R i j) : ∃ i' j' : Int, [V.int i, V.int j] = [.int i', .int j'] ∧ (-(2 ^ 62) ≤ i' ∧ i' < 2 ^ 62 ∧ -(2 ^ 62) ≤ j' ∧ j' < 2 ^ 62) ∧ R i' j' := ⟨i, j, rfl, h, q⟩
theorem i_list {tl : TE} {R : It → Hp → Prop} (h : tl σ H fun x H1 => ∃ a, x = .ref a ∧ (∃ xs, SqL K H1 a xs) ∧ R (Itl K a) H1) : iList K tl σ H R := h
theorem i_listIn {a : Addr} {xs : List V} {R : Addr → Prop} (h : SqL K H a xs) (q : R a) : ∃ a', V.ref a = .ref a' ∧ (∃ xs, SqL K H a' xs) ∧ R a' := ⟨a, rfl, ⟨xs, h⟩, q⟩
theorem i_tupI {tl : TE} {R : It → Hp → Prop} (h : tl σ H fun x H1 => ∃ a, x = .ref a ∧ (∃ xs, SqT K H1 a xs) ∧ R (Itt K a) H1) : iTup K tl σ H R := h
theorem i_tupIn {a : Addr} {xs : List V} {R : Addr → Prop} (h : SqT K H a xs) (q : R a) : ∃ a', V.ref a = .ref a' ∧ (∃ xs, SqT K H a' xs) ∧ R a' := ⟨a, rfl, ⟨xs, h⟩, q⟩
/-! ### for -/
theorem f_rng {lo : Int} {n : Nat} {g : TG} {tb : TS} (I : Nat → L2.St → Hp → Prop) (h0 : I 0 σ H)
    (step : ∀ k σ' H', k < n → I k σ' H' → g (.int (lo + k)) σ' H' fun σ2 H2 => tb { nx := I (k + 1), rt := D.rt, bk := D.nx, ct := I (k + 1) } σ2 H2)
    (fin : ∀ σ' H', I n σ' H' → D.nx σ' H') :
    ∃ W : Nat → Nat → L2.St → Hp → Prop, (∃ m, W 0 m σ H) ∧ ∀ (i m : Nat) (σ : L2.St) (H : Hp), W i m σ H → (Itr lo n).stop i H ∧ D.nx σ H ∨ (Itr lo n).go i H ∧ ∃ N : L2.St → Hp → Prop, (∀ σ' H', N σ' H' → ∃ m', m' < m ∧ W (i + 1) m' σ' H') ∧
    ∀ x H', (Itr lo n).yld i H x H' → g x σ H' fun σ2 H2 => tb { nx := N, rt := D.rt, bk := D.nx, ct := N } σ2 H2 := by
  refine ⟨fun i m σ H => i + m = n ∧ I i σ H, ⟨n, by omega, h0⟩, fun i m σ1 H1 ⟨e, hi⟩ => ?_⟩
  by_cases c : i < n
  · refine .inr ⟨c, I (i + 1), fun σ' H' h' => ⟨m - 1, by omega, by omega, h'⟩, fun x H' y => ?_⟩
    obtain ⟨rfl, rfl⟩ := y
    exact step i σ1 H' c hi
  · refine .inl ⟨Nat.le_of_not_lt c, ?_⟩
    have : i = n := by omega
    subst this
    exact fin _ _ hi
theorem f_list {a : Addr} {g : TG} {tb : TS} (xs : List V) (I : Nat → L2.St → Hp → Prop) (hs : ∀ k σ' H', I k σ' H' → SqL K H' a xs) (h0 : I 0 σ H)
    (step : ∀ k x σ' H', xs[k]? = some x → I k σ' H' → g x σ' H' fun σ2 H2 => tb { nx := I (k + 1), rt := D.rt, bk := D.nx, ct := I (k + 1) } σ2 H2)
    (fin : ∀ σ' H', I xs.length σ' H' → D.nx σ' H') :
    ∃ W : Nat → Nat → L2.St → Hp → Prop, (∃ m, W 0 m σ H) ∧ ∀ (i m : Nat) (σ : L2.St) (H : Hp), W i m σ H → (Itl K a).stop i H ∧ D.nx σ H ∨ (Itl K a).go i H ∧ ∃ N : L2.St → Hp → Prop, (∀ σ' H', N σ' H' → ∃ m', m' < m ∧ W (i + 1) m' σ' H') ∧
    ∀ x H', (Itl K a).yld i H x H' → g x σ H' fun σ2 H2 => tb { nx := N, rt := D.rt, bk := D.nx, ct := N } σ2 H2 := by
  refine ⟨fun i m σ H => i + m = xs.length ∧ I i σ H, ⟨xs.length, by omega, h0⟩, fun i m σ1 H1 ⟨e, hi⟩ => ?_⟩
  by_cases c : i < xs.length
  · refine .inr ⟨⟨xs, xs[i], hs _ _ _ hi, List.getElem?_eq_getElem c⟩, I (i + 1), fun σ' H' h' => ⟨m - 1, by omega, by omega, h'⟩, fun x H' y => ?_⟩
    obtain ⟨rfl, y⟩ := y
    exact step i x σ1 H' (y xs (hs _ _ _ hi)) hi
  · refine .inl ⟨⟨xs, hs _ _ _ hi, Nat.le_of_not_lt c⟩, ?_⟩
    have : i = xs.length := by omega
    subst this
    exact fin _ _ hi
theorem f_tup {a : Addr} {g : TG} {tb : TS} (xs : List V) (I : Nat → L2.St → Hp → Prop) (hs : ∀ k σ' H', I k σ' H' → SqT K H' a xs) (h0 : I 0 σ H)
    (step : ∀ k x σ' H', xs[k]? = some x → I k σ' H' → g x σ' H' fun σ2 H2 => tb { nx := I (k + 1), rt := D.rt, bk := D.nx, ct := I (k + 1) } σ2 H2)
    (fin : ∀ σ' H', I xs.length σ' H' → D.nx σ' H') :
    ∃ W : Nat → Nat → L2.St → Hp → Prop, (∃ m, W 0 m σ H) ∧ ∀ (i m : Nat) (σ : L2.St) (H : Hp), W i m σ H → (Itt K a).stop i H ∧ D.nx σ H ∨ (Itt K a).go i H ∧ ∃ N : L2.St → Hp → Prop, (∀ σ' H', N σ' H' → ∃ m', m' < m ∧ W (i + 1) m' σ' H') ∧
    ∀ x H', (Itt K a).yld i H x H' → g x σ H' fun σ2 H2 => tb { nx := N, rt := D.rt, bk := D.nx, ct := N } σ2 H2 := by
  refine ⟨fun i m σ H => i + m = xs.length ∧ I i σ H, ⟨xs.length, by omega, h0⟩, fun i m σ1 H1 ⟨e, hi⟩ => ?_⟩
  by_cases c : i < xs.length
  · refine .inr ⟨⟨xs, xs[i], hs _ _ _ hi, List.getElem?_eq_getElem c⟩, I (i + 1), fun σ' H' h' => ⟨m - 1, by omega, by omega, h'⟩, fun x H' y => ?_⟩
    obtain ⟨rfl, y⟩ := y
    exact step i x σ1 H' (y xs (hs _ _ _ hi)) hi
  · refine .inl ⟨⟨xs, hs _ _ _ hi, Nat.le_of_not_lt c⟩, ?_⟩
    have : i = xs.length := by omega
    subst this
    exact fin _ _ hi
/-! ### comprehensions -/
/-- what a comprehension asks of its iterator -/
def LcOf (J : It) (g : TG) (tt : TT) (te : TE) (vs : List Nat) (σ : L2.St) (Q : VK) (H1 : Hp) : Prop := ∀ D : Addr, H1 D = none → ∃ W : Nat → Nat → Hp → Prop, (∃ m, W 0 m (upd H1 D (.lst []))) ∧ ∀ (i m : Nat) (H : Hp), W i m H → J.stop i H ∧ Q (.ref D) H ∨ J.go i H ∧ ∃ Nx : Hp → Prop,
    (∀ H', Nx H' → ∃ m', m' < m ∧ W (i + 1) m' H') ∧ ∀ x H', J.yld i H x H' → g x (wipe σ vs) H' fun σ2 H2 => wipe σ2 vs = wipe σ vs ∧ tt σ2 H2 fun b H3 => if b = true then te σ2 H3 fun y H4 => ∃ acc, H4 D = some (.lst acc) ∧ acc.length < sizeLine ∧ Nx (upd H4 D (.lst (acc ++ [y]))) else Nx H3
theorem i_lc {wi : TI} {g : TG} {tt : TT} {te : TE} {vs : List Nat} (h : wi σ H fun J H1 => LcOf J g tt te vs σ Q H1) : tLc wi g tt te vs σ H Q := h
theorem i_yes {R : Bool → Hp → Prop} (h : R true H) : tYes σ H R := h
theorem wipe_set (σ : L2.St) (v : Nat) (x : Option V) : wipe ((wipe σ [v]).set v x) [v] = wipe σ [v] := by
  show List.set (List.set (List.set σ v none) v x) v none = List.set σ v none
  rw [List.set_set, List.set_set]
/-- what a turn asks of the value it takes -/
def LcPut (D : Addr) (k : Nat) (I : Nat → List V → Hp → Prop) (y : V) (H4 : Hp) : Prop := ∃ acc, H4 D = some (.lst acc) ∧ acc.length < sizeLine ∧ ∃ acc', acc'.length = k + 1 ∧ (upd H4 D (.lst (acc ++ [y]))) D = some (.lst acc') ∧ I (k + 1) acc' (upd H4 D (.lst (acc ++ [y])))
theorem lc_put {D : Addr} {k : Nat} {I : Nat → List V → Hp → Prop} {y : V} {acc : List V} (h : H D = some (.lst acc)) (hl : acc.length = k) (hk : k < 4000) (q : I (k + 1) (acc ++ [y]) (upd H D (.lst (acc ++ [y])))) : LcPut D k I y H :=
  ⟨acc, h, by rw [sizeLine_eq]; omega, acc ++ [y], by rw [List.length_append]; simp [hl], upd_same, q⟩
/-- over numbers, all taken, one name -/
theorem lc_rng {lo : Int} {n v : Nat} {te : TE} (I : Nat → List V → Hp → Prop) (h0 : ∀ D, H D = none → I 0 [] (upd H D (.lst [])))
    (step : ∀ k D acc H', k < n → acc.length = k → H D = none → H' D = some (.lst acc) → I k acc H' → te ((wipe σ [v]).set v (some (.int (lo + k)))) H' fun y H4 => LcPut D k I y H4)
    (fin : ∀ D acc H', acc.length = n → H D = none → H' D = some (.lst acc) → I n acc H' → Q (.ref D) H') :
    LcOf (Itr lo n) (gName v) tYes te [v] σ Q H := by
  intro D hD
  refine ⟨fun i m H' => i + m = n ∧ ∃ acc, acc.length = i ∧ H' D = some (.lst acc) ∧ I i acc H', ⟨n, by omega, [], rfl, upd_same, h0 D hD⟩, fun i m H1 ⟨e, acc, hl, ha, hi⟩ => ?_⟩
  by_cases c : i < n
  · refine .inr ⟨c, fun H' => ∃ acc, acc.length = i + 1 ∧ H' D = some (.lst acc) ∧ I (i + 1) acc H', fun H' h' => ⟨m - 1, by omega, by omega, h'⟩, fun x H' y => ?_⟩
    obtain ⟨rfl, rfl⟩ := y
    exact ⟨wipe_set σ v _, step i D acc H' c hl hD ha hi⟩
  · refine .inl ⟨Nat.le_of_not_lt c, ?_⟩
    have : i = n := by omega
    subst this
    exact fin D acc _ hl hD ha hi
/-- over a list or a tuple that stands, all taken, one name -/
theorem lc_list {a : Addr} {v : Nat} {te : TE} (xs : List V) (I : Nat → List V → Hp → Prop) (hs : ∀ k D acc H', H D = none → H' D = some (.lst acc) → I k acc H' → SqL K H' a xs) (h0 : ∀ D, H D = none → I 0 [] (upd H D (.lst [])))
    (step : ∀ k x D acc H', xs[k]? = some x → acc.length = k → H D = none → H' D = some (.lst acc) → I k acc H' → te ((wipe σ [v]).set v (some x)) H' fun y H4 => LcPut D k I y H4)
    (fin : ∀ D acc H', acc.length = xs.length → H D = none → H' D = some (.lst acc) → I xs.length acc H' → Q (.ref D) H') :
    LcOf (Itl K a) (gName v) tYes te [v] σ Q H := by
  intro D hD
  refine ⟨fun i m H' => i + m = xs.length ∧ ∃ acc, acc.length = i ∧ H' D = some (.lst acc) ∧ I i acc H', ⟨xs.length, by omega, [], rfl, upd_same, h0 D hD⟩, fun i m H1 ⟨e, acc, hl, ha, hi⟩ => ?_⟩
  by_cases c : i < xs.length
  · refine .inr ⟨⟨xs, xs[i], hs _ _ _ _ hD ha hi, List.getElem?_eq_getElem c⟩, fun H' => ∃ acc, acc.length = i + 1 ∧ H' D = some (.lst acc) ∧ I (i + 1) acc H', fun H' h' => ⟨m - 1, by omega, by omega, h'⟩, fun x H' y => ?_⟩
    obtain ⟨rfl, y⟩ := y
    exact ⟨wipe_set σ v _, step i x D acc H' (y xs (hs _ _ _ _ hD ha hi)) hl hD ha hi⟩
  · refine .inl ⟨⟨xs, hs _ _ _ _ hD ha hi, Nat.le_of_not_lt c⟩, ?_⟩
    have : i = xs.length := by omega
    subst this
    exact fin D acc _ hl hD ha hi
theorem lc_tup {a : Addr} {v : Nat} {te : TE} (xs : List V) (I : Nat → List V → Hp → Prop) (hs : ∀ k D acc H', H D = none → H' D = some (.lst acc) → I k acc H' → SqT K H' a xs) (h0 : ∀ D, H D = none → I 0 [] (upd H D (.lst [])))
    (step : ∀ k x D acc H', xs[k]? = some x → acc.length = k → H D = none → H' D = some (.lst acc) → I k acc H' → te ((wipe σ [v]).set v (some x)) H' fun y H4 => LcPut D k I y H4)
    (fin : ∀ D acc H', acc.length = xs.length → H D = none → H' D = some (.lst acc) → I xs.length acc H' → Q (.ref D) H') :
    LcOf (Itt K a) (gName v) tYes te [v] σ Q H := by
  intro D hD
  refine ⟨fun i m H' => i + m = xs.length ∧ ∃ acc, acc.length = i ∧ H' D = some (.lst acc) ∧ I i acc H', ⟨xs.length, by omega, [], rfl, upd_same, h0 D hD⟩, fun i m H1 ⟨e, acc, hl, ha, hi⟩ => ?_⟩
  by_cases c : i < xs.length
  · refine .inr ⟨⟨xs, xs[i], hs _ _ _ _ hD ha hi, List.getElem?_eq_getElem c⟩, fun H' => ∃ acc, acc.length = i + 1 ∧ H' D = some (.lst acc) ∧ I (i + 1) acc H', fun H' h' => ⟨m - 1, by omega, by omega, h'⟩, fun x H' y => ?_⟩
    obtain ⟨rfl, y⟩ := y
    exact ⟨wipe_set σ v _, step i x D acc H' (y xs (hs _ _ _ _ hD ha hi)) hl hD ha hi⟩
  · refine .inl ⟨⟨xs, hs _ _ _ _ hD ha hi, Nat.le_of_not_lt c⟩, ?_⟩
    have : i = xs.length := by omega
    subst this
    exact fin D acc _ hl hD ha hi
end Rb
/-! Rb: own exceptions raised without parts, caught; a Hook that tells more. -/
namespace Rb
open PySem PySem.Spec PyProof.Rows L2
/-- what an own error's class tells, so that it may be raised -/
structure XOk (K : PySem.W.Frag) (mg : Str → Option Value) (x : Str) : Prop where
  g : mg x = some (.ref (He.ga K x))
  ex : PySem.W.excIn K (He.ga K x) He.veBase "ValueError.__new__" = true
  kp : PySem.W.keepIn K (.ref (He.ga K x)) = true
  sub : PySem.W.subIn K (.ref (He.ga K x)) (.type "BaseException") = some true
  ty : PySem.W.typeIn K (.ref (He.ga K x)) = some (.type "type")
def tRaiseE (E : XK) (C : Addr) : TS := fun _ σ H => E (.ref C) none H
section
variable {X : Cx} {x : Str} {E : XK} {p pos pos' : Pos}
theorem pmk_own0 (T : XOk X.K X.mg x) (hg : Gl X x) (hdb : (x == ("__debug__" : Str)) = false := by decide) : PMk X (.Call (.Name x p) [] [] pos) (fun _ H Q => Q (.ref (He.ga X.K x)) none H) := by
  intro pins s σ H Q I h
  refine wpAny_Call_Name_kw (ld_glob I hg T.g ?_ hdb)
  refine PySem.W.callWith_K0 I.kIn T.kp ?_
  show wpAny _ _ (call (.ref (He.ga X.K x)) []) _ _ _
  obtain ⟨bm, N, nm, qn, bs, hdct, sn, sub, ab, col, dd, k0, k1, k2, k3, k5, mN, hC, hN, hni, T'⟩ := exc_obj I.kIn T.ex
  refine wpAny_call_exc_subT PySem.F.excBase_ValueError T' hC hN hni (fun h' e hm => ?_) (by show 0 ≤ sizeLine; omega)
  exact mk_of I hm (raises_own T.sub T.ty) h (I.hok.gone hm.new)
theorem ps_raise0 (T : XOk X.K X.mg x) (hc : X.calm = true) (tk : Takes X (fun cls d _ H => E cls d H)) (hg : Gl X x) (hdb : (x == ("__debug__" : Str)) = false := by decide) :
    PS X (.Raise (some (.Call (.Name x p) [] [] pos)) none pos') (tRaiseE E (He.ga X.K x)) := ps_raise hc tk (pmk_own0 T hg hdb)
/-! ### a method whose errors are caught here -/
def tMethS (C : Addr) (m : Str) (sp : Sp) (E : L2.St → XK) (ta : TE) (t : TA) : TE := fun σ H Q => ta σ H fun x H1 => ∃ a dx fs, x = .ref a ∧ H1 a = some (.ins C dx fs) ∧ fs.lookup m = none ∧ t σ H1 fun vs H2 => sp (x :: vs) H2 Q (E σ)
section
variable {X : Cx} {CX : CXT} {k : Nat} {f C : Addr} {fd : FuncData} {ps : List Str} {sp : Sp} {E : L2.St → XK} {m : Str} {pos apos : Pos} {e o : Expr} {es : List Expr} {ta : TE} {t : TA}
theorem pe_methS {pl : Sem Bool} (he : PE X o ta) (c : Cls X.K C) (hm : Meth X.K C m f) (F : FnOk X.prog X.w X.K X.mg X.base CX k f fd ps sp) (hr : Room k X.A) (hb : Binds X.K fd ps []) (hx : ∀ σ, PassesAt CX X σ (E σ)) (ha : PA X (e :: es) t)
    (hst : starEach (e :: es) X.env = (false, eval e X.env) :: starEach es X.env := by rfl) (hpl : (backTo pos (starEach es X.env)).any (·.1) = false := by rfl)
    (ht : eval (.Call (.Attribute o m apos) (e :: es) [] pos) X.env = (do
      let ov ← eval o X.env
      standAt apos.atName
      let (f, first) ← holding [ov] (getMethod ov m pl)
      callWith pos f first (backTo pos (starEach (e :: es) X.env)) (backToKw pos (keywordEach [] X.env))) := by rfl) :
    PE X (.Call (.Attribute o m apos) (e :: es) [] pos) (tMethS C m sp E ta t) := by
  refine ⟨fun pins s σ H Q I h => ?_⟩
  refine PySem.W.methodCall_KW (pl := pl) (thn (he.run pins s σ H _ I h) fun u s1 ⟨x, H1, I1, rx, a, dx, fs, ex, ea, l, q⟩ => ?_) ht
  subst ex
  obtain rfl : u = Value.ref a := rx
  refine getmeth_ok I1 ea c hm l ?_
  refine PySem.W.callWith_K (first := [.ref a]) (h₀ := X.base) I.ok.mod.kin hm.kp (thn (ha.run pos pins s1 σ H1 _ I1 q) fun us s2 ⟨vs, H2, I2, r, q2⟩ => ⟨I2.kIn, ?_⟩) hst hpl
  exact run_fnS (us := .ref a :: us) (vs := .ref a :: vs) F hr hb (hx σ) I2 (.cons rfl r) q2
end
end
/-! ### try -/
def tTryAs (K : PySem.W.Frag) (C : Addr) (i : Nat) (tb : WX → TS) (ts : Addr → Value → Option Addr → TS) (Wout : WX) : TS := fun D σ H => tb (wAs K (.ref C) i ts Wout D) D σ H
def tKn (C : Addr) (t : TS) (cls : Value) (d : Option Addr) : TS := fun D σ H => cls = .ref C ∧ d = none ∧ t D σ H
theorem pss_kn {X : Cx} {ss : List Stmt} {C : Addr} {t : TS} {cls : Value} {d : Option Addr} (h : cls = .ref C → d = none → PSs X ss t) : PSs X ss (tKn C t cls d) := ⟨fun pins s σ H D I q => (h q.1 q.2.1).run pins s σ H D I q.2.2⟩
def tTryOnly (K : PySem.W.Frag) (C : Addr) (tb : WX → TS) (ts : Addr → Value → Option Addr → TS) (Wout : WX) : TS := fun D σ H => tb (wOnly K (.ref C) ts Wout D) D σ H
section
variable {X : Cx} {x n : Str} {C : Addr} {i : Nat} {body suite : List Stmt} {b₀ : Stmt} {np pos pos' : Pos} {tb : WX → TS} {ts : Addr → Value → Option Addr → TS} {Wout : WX}
theorem ps_tryAs (hs : X.stack = X.env :: X.outer) (hf : X.env.frame = some X.env.locals) (hN : X.N.Nodup) (hi : X.N[i]? = some n) (hln : X.env.kindOf n = some .local) (hg : Gl X x) (hd : (x == ("__debug__" : Str)) = false) (hc : X.mg x = some (.ref C)) (tk : Takes X Wout)
    (hb : ∀ (W : WX) (pn : List (Addr × Obj)) (xe : Value → Shared → Prop), Takes (X.tr pn xe) W → PassesOwn (model X.prog X.w) X.A X.env xe → PSs (X.tr pn xe) body (tb W))
    (hsu : ∀ (a : Addr) (oe : Obj) (cls : Value) (d : Option Addr) (pn : List (Addr × Obj)), Zc cls d oe → (∃ vs, oe.data = .fields vs) → PSs (X.suite a ((a, oe) :: pn)) (b₀ :: suite) (ts a cls d)) :
    PS X (.Try body [.ExceptHandler (some (.Name x np)) (some n) (b₀ :: suite) pos'] [] [] pos) (tTryAs X.K C i tb ts Wout) := ps_try_as hs hf hN hi hln ⟨hg, hd, .inl hc⟩ tk hb hsu
theorem ps_tryOnly (hs : X.stack = X.env :: X.outer) (hf : X.env.frame = some X.env.locals) (hg : Gl X x) (hd : (x == ("__debug__" : Str)) = false) (hc : X.mg x = some (.ref C)) (tk : Takes X Wout)
    (hb : ∀ (W : WX) (pn : List (Addr × Obj)) (xe : Value → Shared → Prop), Takes (X.tr pn xe) W → PassesOwn (model X.prog X.w) X.A X.env xe → PSs (X.tr pn xe) body (tb W))
    (hsu : ∀ (a : Addr) (oe : Obj) (cls : Value) (d : Option Addr) (pn : List (Addr × Obj)), Zc cls d oe → (∃ vs, oe.data = .fields vs) → PSs (X.suite a ((a, oe) :: pn)) (b₀ :: suite) (ts a cls d)) :
    PS X (.Try body [.ExceptHandler (some (.Name x np)) none (b₀ :: suite) pos'] [] [] pos) (tTryOnly X.K C tb ts Wout) := ps_try_only hs hf ⟨hg, hd, .inl hc⟩ tk hb hsu
end
theorem hu65 {k : Nat} {A : Around} (hr : Room k A) : A.units + 65 < cLine := by
  have := hr.un
  omega
/-! ### a Hook that tells more of the written part -/
def excCB (K : PySem.W.Frag) (x : Str) : Bool :=
  He.eqO (PySem.W.findIn K (.ref (He.ga K x)) "__getattribute__") (some (some (.builtin "BaseException.__getattribute__"))) && (He.eqO (PySem.W.findIn K (.ref (He.ga K x)) "__getattr__") (some none) && (decide (PySem.W.subIn K (.ref (He.ga K x)) (.type "BaseException") = some true) && (PySem.W.hasDictIn K (He.ga K x) &&
    (He.eqO (PySem.W.findIn K (.ref (He.ga K x)) "__class__") (some (some (.builtin "object.__class__"))) && (He.eqO (PySem.W.specialIn K (.builtin "object.__class__") "__get__") (some (some (.builtin "getset_descriptor.__get__"))) && (decide (PySem.W.takesIn K (.builtin "object.__class__") = some true) && decide (PySem.W.mroIn K (He.ga K x) (.type "object") = some true)))))))
theorem excCB_ok {K : PySem.W.Frag} {x : Str} (h : excCB K x = true) : ExcC K (He.ga K x) := by
  obtain ⟨h1, h⟩ := He.ba h
  obtain ⟨h2, h⟩ := He.ba h
  obtain ⟨h3, h⟩ := He.ba h
  obtain ⟨h4, h⟩ := He.ba h
  obtain ⟨h5, h⟩ := He.ba h
  obtain ⟨h6, h⟩ := He.ba h
  obtain ⟨h7, h8⟩ := He.ba h
  exact ⟨He.eqO_ok h1, He.eqO_ok h2, of_decide_eq_true h3, h4, He.eqO_ok h5, He.eqO_ok h6, of_decide_eq_true h7, of_decide_eq_true h8⟩
abbrev AlX : Type := He.AlD × Bool
def obsX (n : Nat) (fa : List He.Fa) (fn : List He.DefD) (ex : PySem.W.Frag → Bool) (g : Addr → Option Obj) : AlX := (He.obsDG n fa fn g, ex (He.frG g (He.asD g n)))
def hookX (n : Nat) (fa : List He.Fa) (fn : List He.DefD) (ex : PySem.W.Frag → Bool) : PySem.W.Hook where
  α := AlX
  obs := fun s => obsX n fa fn ex s.heap.get?
  val := fun _ => (He.valD fn, true)
  says := fun _ h => ∃ K : PySem.W.Frag, K.In h ∧ He.SaysD fa fn K ∧ ex K = true
  of := fun _ _ e => ⟨_, He.frG_in, congrArg (fun z : AlX => z.1) e, congrArg (fun z : AlX => z.2) e⟩
  keeps := fun _ _ _ ⟨K, hK, c⟩ k => ⟨K, PySem.W.Frag.In.keeps hK k, c⟩
theorem obsX_eq {n : Nat} {fa : List He.Fa} {fn : List He.DefD} {ex : PySem.W.Frag → Bool} {g : Addr → Option Obj} {s : Shared} (h : ∀ a, g a = s.heap.get? a) : obsX n fa fn ex g = (hookX n fa fn ex).obs s := by
  have e : g = s.heap.get? := funext h
  rw [e] <;> rfl
theorem xOk_of {K : PySem.W.Frag} {mg : Str → Option Value} {x : Str} (g : mg x = some (.ref (He.ga K x))) (c : (He.Fa.exc x).ok K = true) : XOk K mg x := by
  obtain ⟨h1, h2, h3, h4⟩ := He.exc_ok c
  exact ⟨g, h1, h2, h3, h4⟩
/-! ### readings, one step -/
section
variable {K : PySem.W.Frag} {σ : L2.St} {H : Hp} {D : Ends} {Q : VK} {E : XK}
theorem i_raise {C : Addr} (h : E (.ref C) none H) : tRaiseE E C D σ H := h
theorem i_callS {sp : Sp} {E' : L2.St → XK} {t : TA} (h : t σ H fun vs H1 => sp vs H1 Q (E' σ)) : tCallS sp E' t σ H Q := h
theorem i_methS {C : Addr} {m : Str} {sp : Sp} {E' : L2.St → XK} {ta : TE} {t : TA} (h : ta σ H fun x H1 => ∃ a dx fs, x = .ref a ∧ H1 a = some (.ins C dx fs) ∧ fs.lookup m = none ∧ t σ H1 fun vs H2 => sp (x :: vs) H2 Q (E' σ)) : tMethS C m sp E' ta t σ H Q := h
theorem i_tryAs {C : Addr} {i : Nat} {tb : WX → TS} {ts : Addr → Value → Option Addr → TS} {Wout : WX} (h : tb (wAs K (.ref C) i ts Wout D) D σ H) : tTryAs K C i tb ts Wout D σ H := h
theorem i_tryOnly {C : Addr} {tb : WX → TS} {ts : Addr → Value → Option Addr → TS} {Wout : WX} (h : tb (wOnly K (.ref C) ts Wout D) D σ H) : tTryOnly K C tb ts Wout D σ H := h
/-- an exception of C', which is one that the clause names -/
theorem i_wAs {C C' : Addr} {i : Nat} {ts : Addr → TS} {Wout : WX} (e : PySem.W.exmOne K (.ref C') (.ref C) = some true)
    (h : ∀ a, H a = none → ts a { nx := fun σ' H' => D.nx (σ'.set i none) H', rt := D.rt, bk := fun σ' H' => D.bk (σ'.set i none) H', ct := fun σ' H' => D.ct (σ'.set i none) H' } (σ.set i (some (.ref a))) H) :
    wAs K (.ref C) i (fun a cls d => tKn C' (ts a) cls d) Wout D (.ref C') none σ H := ⟨true, e, fun _ a ha => ⟨rfl, rfl, h a ha⟩, fun z => nomatch z⟩
theorem i_wOnly {C C' : Addr} {ts : Addr → TS} {Wout : WX} (e : PySem.W.exmOne K (.ref C') (.ref C) = some true) (h : ∀ a, H a = none → ts a D σ H) :
    wOnly K (.ref C) (fun a cls d => tKn C' (ts a) cls d) Wout D (.ref C') none σ H := ⟨true, e, fun _ a ha => ⟨rfl, rfl, h a ha⟩, fun z => nomatch z⟩
theorem i_isE {D' a : Addr} (q : Q (.bl true) H) : rIsE K D' a [.ref a, .ref D'] H Q := ⟨.ref D', .ref D', true, rfl, fun u r => r, if_pos (by simp), q⟩
end
/-! ### sorted(a dict of whole numbers) -/
def rSortedDI : List V → Hp → VK → Prop := fun xs H Q => ∃ (a : Addr) (kvs : List (Key × V)) (ks : List Int), xs = [.ref a] ∧ Rd H a (.dK kvs) ∧ kvs.map (·.1) = ks.map Sum.inl ∧ ks.length < 64 ∧
    ∀ (ys : List Int) (p : Addr), ys.Perm ks → ys.Pairwise (· ≤ ·) → H p = none → Q (.ref p) (upd H p (.lst (ys.map V.int)))
theorem cr_sortedDI {X : Cx} (hc : X.calm = true) : CallR X (.builtin "sorted") rSortedDI := call_sortedDI hc
end Rb
/-! Rb: addresses that are apart; the memory and its guards in the heap. -/
namespace Rb
open PySem PySem.Spec PyProof.Rows L2
/-- all apart, all there -/
structure AL (L : List Addr) (H : Hp) : Prop where
  nd : L.Nodup
  there : ∀ a ∈ L, ∃ o, H a = some o
theorem AL.nil {H : Hp} : AL [] H := ⟨List.nodup_nil, fun _ h => by cases h⟩
theorem AL.new {L : List Addr} {H : Hp} (h : AL L H) {p : Addr} {o : HO} (hp : H p = none) : AL (p :: L) (upd H p o) := by
  refine ⟨List.nodup_cons.mpr ⟨fun m => ?_, h.nd⟩, fun a m => ?_⟩
  · obtain ⟨u, e⟩ := h.there p m
    rw [hp] at e
    cases e
  · rcases List.mem_cons.mp m with rfl | m
    · exact ⟨o, upd_same⟩
    · obtain ⟨u, e⟩ := h.there a m
      exact ⟨u, upd_at (ne_fresh hp e) e⟩
theorem AL.upd {L : List Addr} {H : Hp} (h : AL L H) {p : Addr} {o : HO} : AL L (L2.upd H p o) := by
  refine ⟨h.nd, fun a m => ?_⟩
  by_cases e : a = p
  · subst e
    exact ⟨o, upd_same⟩
  · obtain ⟨u, q⟩ := h.there a m
    exact ⟨u, upd_at e q⟩
theorem AL.stays {L fp : List Addr} {H H' : Hp} (h : AL L H) (s : Stays fp H H') (k : ∀ a ∈ L, a ∈ fp → ∃ o, H' a = some o) : AL L H' := ⟨h.nd, fun a m => by
  by_cases f : a ∈ fp
  · exact k a m f
  · obtain ⟨o, e⟩ := h.there a m
    exact ⟨o, s a o e f⟩⟩
theorem AL.same {L : List Addr} {H H' : Hp} (h : AL L H) (s : Same H H') : AL L H' := ⟨h.nd, fun a m => by
  obtain ⟨o, e⟩ := h.there a m
  exact ⟨o, s a o e⟩⟩
theorem AL.perm {L L' : List Addr} {H : Hp} (h : AL L H) (p : L.Perm L') : AL L' H := ⟨p.nodup_iff.mp h.nd, fun a m => h.there a (p.mem_iff.mpr m)⟩
theorem AL.ne {L : List Addr} {H : Hp} (h : AL L H) {i j : Nat} {a b : Addr} (ha : L[i]? = some a) (hb : L[j]? = some b) (n : i ≠ j) : a ≠ b := fun e => by
  subst e
  have hi : i < L.length := (List.getElem?_eq_some_iff.mp ha).1
  exact n ((List.getElem?_inj hi h.nd).mp (ha.trans hb.symm))
theorem AL.join {L L' : List Addr} {H H' : Hp} (h : AL L H) (keep : ∀ a ∈ L, ∃ o, H' a = some o) (nd : L'.Nodup) (fr : ∀ a ∈ L', H a = none) (th : ∀ a ∈ L', ∃ o, H' a = some o) : AL (L ++ L') H' := by
  refine ⟨List.nodup_append.mpr ⟨h.nd, nd, fun a m b m' e => ?_⟩, fun a m => (List.mem_append.mp m).elim (keep a) (th a)⟩
  subst e
  obtain ⟨o, e⟩ := h.there a m
  rw [fr a m'] at e
  cases e
theorem AL.joinSame {L L' : List Addr} {H H' : Hp} (h : AL L H) (s : Same H H') (nd : L'.Nodup) (fr : ∀ a ∈ L', H a = none) (th : ∀ a ∈ L', ∃ o, H' a = some o) : AL (L ++ L') H' := h.join (fun a m => by
  obtain ⟨o, e⟩ := h.there a m
  exact ⟨o, s a o e⟩) nd fr th
/-! ### the classes -/
structure MemCls (K : PySem.W.Frag) : Prop where
  c : Cls K (He.ga K "Memory")
  count : NoAttr K (He.ga K "Memory") "count"
  held : NoAttr K (He.ga K "Memory") "held"
  guards : NoAttr K (He.ga K "Memory") "guards"
  stored : NoAttr K (He.ga K "Memory") "stored"
  journals : NoAttr K (He.ga K "Memory") "journals"
  rows : NoAttr K (He.ga K "Memory") "rows"
  g : Cls K (He.ga K "Guard")
  kept : NoAttr K (He.ga K "Guard") "kept"
  waiting : NoAttr K (He.ga K "Guard") "waiting"
  tickets : NoAttr K (He.ga K "Guard") "tickets"
/-! ### a guard -/
structure GAd where
  g : Addr
  dx : Addr
  k : Addr
  w : Addr
structure GS where
  kept : List (Key × V)
  wait : List V
  tickets : Int
def GAd.all (a : GAd) : List Addr := [a.g, a.k, a.w]
def gFields (a : GAd) (s : GS) : List (Str × V) := [("kept", .ref a.k), ("waiting", .ref a.w), ("tickets", .int s.tickets)]
structure GAt (K : PySem.W.Frag) (H : Hp) (a : GAd) (s : GS) : Prop where
  g : H a.g = some (.ins (He.ga K "Guard") a.dx (gFields a s))
  k : H a.k = some (.dK s.kept)
  w : H a.w = some (.lst s.wait)
theorem GAt.same {K : PySem.W.Frag} {H H' : Hp} {a : GAd} {s : GS} (h : GAt K H a s) (e : Same H H') : GAt K H' a s := ⟨e _ _ h.g, e _ _ h.k, e _ _ h.w⟩
theorem GAt.stays {K : PySem.W.Frag} {H H' : Hp} {a : GAd} {s : GS} {fp : List Addr} (h : GAt K H a s) (e : Stays fp H H') (n : ∀ x ∈ a.all, x ∉ fp) : GAt K H' a s :=
  ⟨e _ _ h.g (n _ (by simp [GAd.all])), e _ _ h.k (n _ (by simp [GAd.all])), e _ _ h.w (n _ (by simp [GAd.all]))⟩
/-! ### the memory -/
structure MAd where
  m : Addr
  dx : Addr
  ph : Addr
  pg : Addr
  g0 : GAd
  g1 : GAd
  ps : Addr
  s0 : Addr
  s1 : Addr
  pj : Addr
  pr : Addr
structure MS where
  count : Int
  held : List V
  g0 : GS
  g1 : GS
  s0 : List V
  s1 : List V
  j0 : V
  j1 : V
  rows : List V
def MAd.all (a : MAd) : List Addr := [a.m, a.ph, a.pg, a.ps, a.s0, a.s1, a.pj, a.pr, a.g0.g, a.g0.k, a.g0.w, a.g1.g, a.g1.k, a.g1.w]
def mFields (a : MAd) (s : MS) : List (Str × V) := [("count", .int s.count), ("held", .ref a.ph), ("guards", .ref a.pg), ("stored", .ref a.ps), ("journals", .ref a.pj), ("rows", .ref a.pr)]
structure MAt (K : PySem.W.Frag) (H : Hp) (a : MAd) (s : MS) : Prop where
  m : H a.m = some (.ins (He.ga K "Memory") a.dx (mFields a s))
  h : H a.ph = some (.lst s.held)
  hl : s.held.length = 70
  gs : H a.pg = some (.lst [.ref a.g0.g, .ref a.g1.g])
  g0 : GAt K H a.g0 s.g0
  g1 : GAt K H a.g1 s.g1
  ss : H a.ps = some (.lst [.ref a.s0, .ref a.s1])
  s0 : H a.s0 = some (.lst s.s0)
  l0 : s.s0.length = 8
  s1 : H a.s1 = some (.lst s.s1)
  l1 : s.s1.length = 8
  js : H a.pj = some (.lst [s.j0, s.j1])
  r : H a.pr = some (.lst s.rows)
  al : AL a.all H
theorem MAt.same {K : PySem.W.Frag} {H H' : Hp} {a : MAd} {s : MS} (h : MAt K H a s) (e : Same H H') : MAt K H' a s :=
  ⟨e _ _ h.m, e _ _ h.h, h.hl, e _ _ h.gs, h.g0.same e, h.g1.same e, e _ _ h.ss, e _ _ h.s0, h.l0, e _ _ h.s1, h.l1, e _ _ h.js, e _ _ h.r, h.al.same e⟩
theorem MAt.stays {K : PySem.W.Frag} {H H' : Hp} {a : MAd} {s : MS} {fp : List Addr} (h : MAt K H a s) (e : Stays fp H H') (n : ∀ x ∈ a.all, x ∉ fp) : MAt K H' a s :=
  have q : ∀ x o, x ∈ a.all → H x = some o → H' x = some o := fun x o m g => e x o g (n x m)
  ⟨q _ _ (by simp [MAd.all]) h.m, q _ _ (by simp [MAd.all]) h.h, h.hl, q _ _ (by simp [MAd.all]) h.gs, ⟨q _ _ (by simp [MAd.all]) h.g0.g, q _ _ (by simp [MAd.all]) h.g0.k, q _ _ (by simp [MAd.all]) h.g0.w⟩,
    ⟨q _ _ (by simp [MAd.all]) h.g1.g, q _ _ (by simp [MAd.all]) h.g1.k, q _ _ (by simp [MAd.all]) h.g1.w⟩, q _ _ (by simp [MAd.all]) h.ss, q _ _ (by simp [MAd.all]) h.s0, h.l0, q _ _ (by simp [MAd.all]) h.s1, h.l1, q _ _ (by simp [MAd.all]) h.js, q _ _ (by simp [MAd.all]) h.r,
    h.al.stays e fun x m f => absurd f (n x m)⟩
/-! ### a new one -/
def valsIn (d j : Nat) (xs : List V) : List V := (List.range j).foldl (fun xs i => xs.set (24 * d + i) .non) xs
def valsWd (d j : Nat) (xs : List V) : List V := (List.range j).foldl (fun xs i => xs.set (56 + 6 * d + i) .non) xs
def valsAt : Nat → List V
  | 0 => List.replicate 70 (.int 0)
  | d + 1 => valsWd d 6 (valsIn d 8 (valsAt d))
theorem valsIn_len (d j : Nat) (xs : List V) : (valsIn d j xs).length = xs.length := by
  unfold valsIn
  induction j with
  | zero => rfl
  | succ j ih => rw [List.range_succ, List.foldl_append]; simp [ih]
theorem valsWd_len (d j : Nat) (xs : List V) : (valsWd d j xs).length = xs.length := by
  unfold valsWd
  induction j with
  | zero => rfl
  | succ j ih => rw [List.range_succ, List.foldl_append]; simp [ih]
theorem valsAt_len : ∀ d, (valsAt d).length = 70
  | 0 => by simp [valsAt]
  | d + 1 => by
    show (valsWd d 6 (valsIn d 8 (valsAt d))).length = 70
    rw [valsWd_len, valsIn_len, valsAt_len d]
theorem valsIn_succ (d j : Nat) (xs : List V) : valsIn d (j + 1) xs = (valsIn d j xs).set (24 * d + j) .non := by
  unfold valsIn
  rw [List.range_succ, List.foldl_append]
  rfl
theorem valsWd_succ (d j : Nat) (xs : List V) : valsWd d (j + 1) xs = (valsWd d j xs).set (56 + 6 * d + j) .non := by
  unfold valsWd
  rw [List.range_succ, List.foldl_append]
  rfl
def gs0 : GS := ⟨[], [], 0⟩
def zero4 : PyData := .tuple ([0, 0, 0, 0].map .int)
def ms0 (b0 b1 j0 j1 : V) : MS := ⟨0, valsAt 2, gs0, gs0, List.replicate 8 b0, List.replicate 8 b1, j0, j1, []⟩
end Rb
/-! Rb: the top's run where a dict is written whose keys are tuples: a run of trees (semE) and rules on what a run reaches (TR), of known length at most. -/
namespace RbH
open PySem PySem.W PySem.Calls PyProof.Rows HandSHeadRun
/-! ### what a run reaches -/
section
variable (tb : String → Option Builtin) (p : Program) (w : World) (n₀ : Nat) (ann : Option Value)
/-- x comes from s to s' with the value a, in at most n steps, over any stack of these places -/
def TR {α : Type} (n : Nat) (W : List (Code × Pos)) (hd : Option Value) (c : Code) (lv : List Value → List Value) (pos : Pos) (s : Shared) (x : Sem α) (a : α) (pos' : Pos) (s' : Shared) : Prop :=
  ∀ (B : List Frame), B.map Frame.where_ = W → splitAtGen B = none → topHandled B = hd → ∀ (K : α → Sem Fin) (H : Value → Sem Fin),
    ∃ m, m ≤ n ∧ ∀ N r, topRun tb p w n₀ ann N s' ⟨K a, c, pos', B⟩ = some r → topRun tb p w n₀ ann (m + N) s ⟨x.wrap K H id lv, c, pos, B⟩ = some r
end
section
variable {tb : String → Option Builtin} {p : Program} {w : World} {n₀ : Nat} {ann : Option Value} {α β : Type} {n m : Nat} {W : List (Code × Pos)} {hd : Option Value} {c : Code} {lv : List Value → List Value} {pos pos1 pos2 : Pos} {s s1 s2 : Shared} {x : Sem α} {a : α}
theorem TR.pure : TR tb p w n₀ ann 0 W hd c lv pos s (.pure a) a pos s := fun B _ _ _ K H => ⟨0, Nat.le_refl 0, fun N r h => by rw [Nat.zero_add]; exact h⟩
theorem TR.mono (h : TR tb p w n₀ ann n W hd c lv pos s x a pos1 s1) (k : n ≤ m) : TR tb p w n₀ ann m W hd c lv pos s x a pos1 s1 := fun B b1 b2 b3 K H => by
  obtain ⟨j, j1, j2⟩ := h B b1 b2 b3 K H
  exact ⟨j, Nat.le_trans j1 k, j2⟩
theorem TR.bind {f : α → Sem β} {b : β} (h : TR tb p w n₀ ann n W hd c lv pos s x a pos1 s1) (k : TR tb p w n₀ ann m W hd c lv pos1 s1 (f a) b pos2 s2) : TR tb p w n₀ ann (n + m) W hd c lv pos s (x.bind f) b pos2 s2 := fun B b1 b2 b3 K H => by
  obtain ⟨j, j1, j2⟩ := h B b1 b2 b3 (fun a => (f a).wrap K H id lv) H
  obtain ⟨i, i1, i2⟩ := k B b1 b2 b3 K H
  refine ⟨j + i, by omega, fun N r q => ?_⟩
  rw [Sem.bind_eq_wrap, Sem.wrap_wrap, Nat.add_assoc]
  exact j2 _ r (i2 N r q)
theorem TR.bindM {f : α → Sem β} {b : β} (h : TR tb p w n₀ ann n W hd c lv pos s x a pos1 s1) (k : TR tb p w n₀ ann m W hd c lv pos1 s1 (f a) b pos2 s2) : TR tb p w n₀ ann (n + m) W hd c lv pos s (x >>= f) b pos2 s2 := TR.bind h k
/-- one step -/
theorem topRun_go {N : Nat} {s s' : Shared} {t t' : Thread} {r : Shared} (ht : through t = false) (hk : stepOk n₀ ann t = true) (hs : step (denote tb) p w s t = .go s' t') (h : topRun tb p w n₀ ann N s' t' = some r) : topRun tb p w n₀ ann (N + 1) s t = some r := by
  unfold topRun
  rw [ht, hk, hs]
  exact h
theorem TR.step1 {y : Sem α} (h : ∀ (B : List Frame) (K : α → Sem Fin) (H : Value → Sem Fin), B.map Frame.where_ = W → splitAtGen B = none → topHandled B = hd →
      through ⟨x.wrap K H id lv, c, pos, B⟩ = false ∧ stepOk n₀ ann ⟨x.wrap K H id lv, c, pos, B⟩ = true ∧ step (denote tb) p w s ⟨x.wrap K H id lv, c, pos, B⟩ = .go s1 ⟨y.wrap K H id lv, c, pos1, B⟩)
    (k : TR tb p w n₀ ann n W hd c lv pos1 s1 y a pos2 s2) : TR tb p w n₀ ann (n + 1) W hd c lv pos s x a pos2 s2 := fun B b1 b2 b3 K H => by
  obtain ⟨j, j1, j2⟩ := k B b1 b2 b3 K H
  obtain ⟨h1, h2, h3⟩ := h B K H b1 b2 b3
  refine ⟨j + 1, by omega, fun N r q => ?_⟩
  rw [show j + 1 + N = (j + N) + 1 by omega]
  exact topRun_go h1 h2 h3 (j2 N r q)
theorem thr {cur : Sem Fin} (h : ∀ f, cur ≠ .pure f) {B : List Frame} : through ⟨cur, c, pos, B⟩ = false := by
  unfold through
  cases cur with
  | pure f => exact absurd rfl (h f)
  | _ => simp
theorem TR.rule {t : String} {k : Unit → Sem α} (h : TR tb p w n₀ ann n W hd c lv pos s (k ()) a pos1 s1) : TR tb p w n₀ ann (n + 1) W hd c lv pos s (.rule t k) a pos1 s1 :=
  TR.step1 (fun B K H _ _ _ => ⟨thr (by intro f z; cases z), rfl, by obtain ⟨h, g, d, t, o⟩ := s; rfl⟩) h
theorem TR.at {q : Pos} {k : Unit → Sem α} (h : TR tb p w n₀ ann n W hd c lv q s (k ()) a pos1 s1) : TR tb p w n₀ ann (n + 1) W hd c lv pos s (.at q k) a pos1 s1 :=
  TR.step1 (fun B K H _ _ _ => ⟨thr (by intro f z; cases z), rfl, by obtain ⟨h, g, d, t, o⟩ := s; rfl⟩) h
theorem TR.point {l : List Value} {k : Unit → Sem α} (h : TR tb p w n₀ ann n W hd c lv pos s (k ()) a pos1 s1) : TR tb p w n₀ ann (n + 1) W hd c lv pos s (.point l k) a pos1 s1 :=
  TR.step1 (fun B K H _ _ _ => ⟨thr (by intro f z; cases z), rfl, by obtain ⟨h, g, d, t, o⟩ := s; rfl⟩) h
theorem TR.ask {k : _ → Sem α} (h : TR tb p w n₀ ann n W hd c lv pos s (k ⟨p, w.params⟩) a pos1 s1) : TR tb p w n₀ ann (n + 1) W hd c lv pos s (.ask k) a pos1 s1 :=
  TR.step1 (fun B K H _ _ _ => ⟨thr (by intro f z; cases z), rfl, by obtain ⟨h, g, d, t, o⟩ := s; rfl⟩) h
theorem TR.stack {k : List (Code × Pos) → Sem α} (h : TR tb p w n₀ ann n W hd c lv pos s (k ((c, pos) :: W)) a pos1 s1) : TR tb p w n₀ ann (n + 1) W hd c lv pos s (.stack k) a pos1 s1 :=
  TR.step1 (fun B K H hW _ _ => ⟨thr (by intro f z; cases z), rfl, by obtain ⟨h, g, d, t, o⟩ := s; subst hW; rfl⟩) h
theorem TR.handled {own : Bool} {k : Option Value → Sem α} (h : TR tb p w n₀ ann n W hd c lv pos s (k hd) a pos1 s1) : TR tb p w n₀ ann (n + 1) W hd c lv pos s (.handled own k) a pos1 s1 :=
  TR.step1 (fun B K H _ hB hh => ⟨thr (by intro f z; cases z), rfl, by
    obtain ⟨h, g, d, t, o⟩ := s
    subst hh
    cases own
    · rfl
    · simp only [Sem.wrap, step, hB, if_true]⟩) h
theorem TR.load {b : Addr} {q : Option Value} {o : Obj} {k : Obj → Sem α} (e : s.heap.get? b = some o) (h : TR tb p w n₀ ann n W hd c lv pos s (k o) a pos1 s1) : TR tb p w n₀ ann (n + 1) W hd c lv pos s (.load b q k) a pos1 s1 :=
  TR.step1 (fun B K H _ _ _ => ⟨thr (by intro f z; cases z), rfl, by
    obtain ⟨hp, g, d, t, o'⟩ := s
    simp only [Sem.wrap, step]
    rw [show hp.get? b = some o from e]⟩) h
/-- by the tree's step, where the tree comes through -/
theorem TR.tree {s s1 : SharedT} {y : Sem α} (hp : ∀ (K : α → Sem Fin) (H : Value → Sem Fin) f, x.wrap K H id lv ≠ .pure f) (hk : ∀ (K : α → Sem Fin) (H : Value → Sem Fin) B, stepOk n₀ ann ⟨x.wrap K H id lv, c, pos, B⟩ = true)
    (h : ∀ (K : α → Sem Fin) (H : Value → Sem Fin) B, stepT (denote tb) p w s ⟨x.wrap K H id lv, c, pos, B⟩ = some (s1, ⟨y.wrap K H id lv, c, pos1, B⟩))
    (k : TR tb p w n₀ ann n W hd c lv pos1 s1.abs y a pos2 s2) : TR tb p w n₀ ann (n + 1) W hd c lv pos s.abs x a pos2 s2 :=
  TR.step1 (fun B K H _ _ _ => ⟨thr (hp K H), hk K H B, stepT_spec (h K H B)⟩) k
theorem wrap_id : ∀ x : Sem α, x.wrap Sem.pure Sem.raise id id = x := by
  intro x
  induction x <;> simp only [Sem.wrap, id, *]
theorem TR.keep {vs : List Value} (h : TR tb p w n₀ ann n W hd c (fun l => lv (vs ++ l)) pos s x a pos1 s1) : TR tb p w n₀ ann n W hd c lv pos s (x.keep vs) a pos1 s1 := fun B b1 b2 b3 K H => by
  obtain ⟨j, j1, j2⟩ := h B b1 b2 b3 K H
  refine ⟨j, j1, fun N r q => ?_⟩
  rw [Sem.keep_eq_wrap, Sem.wrap_wrap]
  exact j2 N r q
end
/-! ### a run of trees, by the term's own form -/
def hdOf (h : Option Value) (hd : Option Value) : Option (Option Value) := match h with
  | none => some hd
  | some e => if e == byPass then none else some (some e)
def againOk : Code → Bool
  | .builtin i _ => !i.startsWith "lifetime."
  | _ => true
mutual
def semE (den : Code → Sem PySem.Fin) (p : Program) (w : World) (n₀ : Nat) (ann : Option Value) (ro : Bool) : Nat → {α : Type} → List (Code × Pos) → Option Value → Code → Pos → SharedT → Sem α → Nat → Option (α × Pos × SharedT × Nat)
  | 0, _, _, _, _, _, _, _, _ => none
  | m + 1, _, W, hd, c, pos, s, x, cnt => match x with
    | .pure a => some (a, pos, s, cnt)
    | .rule _ k => semE den p w n₀ ann ro m W hd c pos s (k ()) (cnt + 1)
    | .at q k => semE den p w n₀ ann ro m W hd c q s (k ()) (cnt + 1)
    | .point _ k => semE den p w n₀ ann ro m W hd c pos s (k ()) (cnt + 1)
    | .ask k => semE den p w n₀ ann ro m W hd c pos s (k ⟨p, w.params⟩) (cnt + 1)
    | .stack k => semE den p w n₀ ann ro m W hd c pos s (k ((c, pos) :: W)) (cnt + 1)
    | .handled _ k => semE den p w n₀ ann ro m W hd c pos s (k hd) (cnt + 1)
    | .load a _ k => match getT s a with
      | some o => semE den p w n₀ ann ro m W hd c pos s (k o) (cnt + 1)
      | none => none
    | .loadIfAlive a k => semE den p w n₀ ann ro m W hd c pos s (k (getT s a)) (cnt + 1)
    | .update a q f k => match ro with
      | true => none
      | false => match (Nat.ble n₀ a || a == mainNs || a == cStatics || ann == some (.ref a)) with
        | true => match stepT den p w s ⟨.update a q f fun _ => .pure (.done .next), c, pos, []⟩ with
          | some (s', _) => frS s' fun s' => semE den p w n₀ ann ro m W hd c pos s' (k ()) (cnt + 1)
          | none => none
        | false => none
    | .alloc o k => match ro with
      | true => none
      | false => match ((s.tree.ins s.n o).get s.n).isSome with
        | true => frS ⟨s.tree.ins s.n o, s.n + 1, s.life, s.gens, s.drawn, s.toks, s.os⟩ fun s' => semE den p w n₀ ann ro m W hd c pos s' (k s.n) (cnt + 1)
        | false => none
    | .fresh k => match ro with
      | true => none
      | false => frS ⟨s.tree, s.n, s.life, s.gens, s.drawn, s.toks + 1, s.os⟩ fun s' => semE den p w n₀ ann ro m W hd c pos s' (k s.toks) (cnt + 1)
    | .call c' h _ _ k => match hdOf h hd with
      | none => none
      | some hd' => match codeE den p w n₀ ann ro m ((c, pos) :: W) hd' c' pos s (cnt + 1) with
        | some (f, _, s', cnt') => semE den p w n₀ ann ro m W hd c pos s' (k (.ok f)) cnt'
        | none => none
    | _ => none
def codeE (den : Code → Sem PySem.Fin) (p : Program) (w : World) (n₀ : Nat) (ann : Option Value) (ro : Bool) : Nat → List (Code × Pos) → Option Value → Code → Pos → SharedT → Nat → Option (Flow × Pos × SharedT × Nat)
  | 0, _, _, _, _, _, _ => none
  | m + 1, W, hd, c, pos, s, cnt => match semE den p w n₀ ann ro m W hd c pos s (den c) cnt with
    | some (.done f, pos', s', cnt') => some (f, pos', s', cnt' + 1)
    | some (.again c2, pos', s', cnt') => match againOk c2 with
      | true => codeE den p w n₀ ann ro m W hd c2 pos' s' (cnt' + 1)
      | false => none
    | none => none
end
section
variable {tb : String → Option Builtin} {p : Program} {w : World} {n₀ : Nat} {ann : Option Value}
/-- what codeE says: with the frame of its caller above the stack -/
def CR (tb : String → Option Builtin) (p : Program) (w : World) (n₀ : Nat) (ann : Option Value) (n : Nat) (W : List (Code × Pos)) (hd : Option Value) (c : Code) (pos : Pos) (s : Shared) (f : Flow) (s' : Shared) : Prop :=
  ∀ (k : Result → Sem PySem.Fin) (h : Option Value) (g : Bool) (l : List Value) (cd : Code) (p₀ : Pos) (kept : List Value) (B : List Frame), (cd, p₀) :: B.map Frame.where_ = W → splitAtGen B = none → topHandled (.ret k h g l cd p₀ kept :: B) = hd →
    ∃ m, m ≤ n ∧ ∀ N r, topRun tb p w n₀ ann N s' ⟨k (.ok f), cd, p₀, B⟩ = some r → topRun tb p w n₀ ann (m + N) s ⟨denote tb c, c, pos, .ret k h g l cd p₀ kept :: B⟩ = some r
theorem hd_kept {k k' : Result → Sem PySem.Fin} {h : Option Value} {g : Bool} {l : List Value} {cd : Code} {p₀ : Pos} {kept kept' : List Value} {B : List Frame} : topHandled (.ret k h g l cd p₀ kept :: B) = topHandled (.ret k' h g l cd p₀ kept' :: B) := by
  cases h <;> simp only [topHandled, topHandled.go]
theorem hdOf_ok {h hd hd' : Option Value} (e : hdOf h hd = some hd') {k : Result → Sem PySem.Fin} {g : Bool} {l : List Value} {cd : Code} {p₀ : Pos} {kept : List Value} {B : List Frame} (b : topHandled B = hd) : topHandled (.ret k h g l cd p₀ kept :: B) = hd' := by
  cases h with
  | none =>
    cases e
    rw [← b]
    simp only [topHandled, topHandled.go]
  | some v =>
    have e' : (if (v == byPass) = true then none else some (some v)) = some hd' := e
    split at e'
    · cases e'
    · rename_i q
      cases e'
      simp only [topHandled, topHandled.go]
      rw [if_neg q]
def keptCall (c' c : Code) (l : List Value) : List Value := match c', c with
  | .builtin _ a, _ => unmarked a.refs
  | .call f a, .builtin .. | .call f a, .call .. => unmarked (if l.contains borrowed then a.refs else f :: a.refs)
  | _, _ => []
theorem step_upd {den : Code → Sem PySem.Fin} {s s2 : Shared} {b : Addr} {q : Option Value} {f : Obj → Obj} {k k2 : Unit → Sem PySem.Fin} {c c2 : Code} {pos pos2 : Pos} {B B2 : List Frame} {t2 : Thread} (h : step den p w s ⟨.update b q f k2, c2, pos2, B2⟩ = .go s2 t2) :
    step den p w s ⟨.update b q f k, c, pos, B⟩ = .go s2 ⟨k (), c, pos, B⟩ := by
  obtain ⟨heap, gens, drawn, toks, os⟩ := s
  cases e : (heap.get? b).isSome with
  | false =>
    simp only [step, e, Bool.false_eq_true, if_false] at h
    cases h
  | true =>
    simp only [step, e, if_true, Step.go.injEq] at h ⊢
    exact ⟨h.1, trivial⟩
mutual
theorem semE_ok : ∀ (m : Nat) (ro : Bool) {α : Type} (W : List (Code × Pos)) (hd : Option Value) (c : Code) (pos : Pos) (s : SharedT) (x : Sem α) (cnt : Nat) (a : α) (pos' : Pos) (s' : SharedT) (cnt' : Nat),
    semE (denote tb) p w n₀ ann ro m W hd c pos s x cnt = some (a, pos', s', cnt') → ∃ n, cnt' = cnt + n ∧ (∀ lv, TR tb p w n₀ ann n W hd c lv pos s.abs x a pos' s'.abs) ∧ (ro = true → s' = s)
  | 0, _, _, _, _, _, _, _, _, _, _, _, _, _, h => by simp [semE] at h
  | m + 1, ro, α, W, hd, c, pos, s, x, cnt, a, pos', s', cnt', h => by
    cases x with
    | pure b =>
      simp only [semE] at h
      cases h
      exact ⟨0, rfl, fun _ => TR.pure, fun _ => rfl⟩
    | rule t k =>
      simp only [semE] at h
      obtain ⟨n, e, t, r⟩ := semE_ok m _ _ _ _ _ _ _ _ _ _ _ _ h
      exact ⟨n + 1, by omega, fun lv => TR.rule (t lv), r⟩
    | «at» q k =>
      simp only [semE] at h
      obtain ⟨n, e, t, r⟩ := semE_ok m _ _ _ _ _ _ _ _ _ _ _ _ h
      exact ⟨n + 1, by omega, fun lv => TR.at (t lv), r⟩
    | point l k =>
      simp only [semE] at h
      obtain ⟨n, e, t, r⟩ := semE_ok m _ _ _ _ _ _ _ _ _ _ _ _ h
      exact ⟨n + 1, by omega, fun lv => TR.point (t lv), r⟩
    | ask k =>
      simp only [semE] at h
      obtain ⟨n, e, t, r⟩ := semE_ok m _ _ _ _ _ _ _ _ _ _ _ _ h
      exact ⟨n + 1, by omega, fun lv => TR.ask (t lv), r⟩
    | stack k =>
      simp only [semE] at h
      obtain ⟨n, e, t, r⟩ := semE_ok m _ _ _ _ _ _ _ _ _ _ _ _ h
      exact ⟨n + 1, by omega, fun lv => TR.stack (t lv), r⟩
    | handled o k =>
      simp only [semE] at h
      obtain ⟨n, e, t, r⟩ := semE_ok m _ _ _ _ _ _ _ _ _ _ _ _ h
      exact ⟨n + 1, by omega, fun lv => TR.handled (t lv), r⟩
    | load b q k =>
      simp only [semE] at h
      split at h
      · rename_i o eo
        obtain ⟨n, e, t, r⟩ := semE_ok m _ _ _ _ _ _ _ _ _ _ _ _ h
        exact ⟨n + 1, by omega, fun lv => TR.load (by rw [← getT_eq]; exact eo) (t lv), r⟩
      · cases h
    | loadIfAlive b k =>
      simp only [semE] at h
      obtain ⟨n, e, t, r⟩ := semE_ok m _ _ _ _ _ _ _ _ _ _ _ _ h
      refine ⟨n + 1, by omega, fun lv => TR.step1 (fun B K H _ _ _ => ⟨thr (by intro f z; cases z), rfl, ?_⟩) (t lv), r⟩
      rw [getT_eq]
      rfl
    | update b q f k =>
      simp only [semE] at h
      cases ro with
      | true => cases h
      | false =>
        cases ok : (Nat.ble n₀ b || b == mainNs || b == cStatics || ann == some (.ref b)) with
        | false =>
          simp only [ok] at h
          cases h
        | true =>
          simp only [ok] at h
          cases es : stepT (denote tb) p w s ⟨.update b q f fun _ => .pure (.done .next), c, pos, []⟩ with
          | none =>
            simp only [es] at h
            cases h
          | some v =>
            obtain ⟨s2, t2⟩ := v
            simp only [es, frS_eq] at h
            obtain ⟨n, e, t, r⟩ := semE_ok m _ _ _ _ _ _ _ _ _ _ _ _ h
            refine ⟨n + 1, by omega, fun lv => TR.step1 (fun B K H _ _ _ => ⟨thr (by intro f z; cases z), ?_, ?_⟩) (t lv), fun z => by cases z⟩
            · exact ok
            · exact step_upd (k := fun u => (k u).wrap K H id lv) (stepT_spec es)
    | alloc o k =>
      simp only [semE] at h
      cases ro with
      | true => cases h
      | false =>
        cases g : ((s.tree.ins s.n o).get s.n).isSome with
        | false =>
          simp only [g] at h
          cases h
        | true =>
          simp only [g, frS_eq] at h
          obtain ⟨n, e, t, r⟩ := semE_ok m _ _ _ _ _ _ _ _ _ _ _ _ h
          refine ⟨n + 1, by omega, fun lv => TR.step1 (fun B K H _ _ _ => ⟨thr (by intro f z; cases z), rfl, ?_⟩) (t lv), fun z => by cases z⟩
          obtain ⟨T, n', life, gens, drawn, toks, os⟩ := s
          have g' : ((T.ins n' o).get n').isSome = true := g
          simp only [SharedT.abs, Sem.wrap, step]
          rw [absHeap_ins g', absHeap_size]
    | fresh k =>
      simp only [semE] at h
      cases ro with
      | true => cases h
      | false =>
        simp only [frS_eq] at h
        obtain ⟨n, e, t, r⟩ := semE_ok m _ _ _ _ _ _ _ _ _ _ _ _ h
        exact ⟨n + 1, by omega, fun lv => TR.step1 (fun B K H _ _ _ => ⟨thr (by intro f z; cases z), rfl, rfl⟩) (t lv), fun z => by cases z⟩
    | call c' hv g l k =>
      simp only [semE] at h
      cases eh : hdOf hv hd with
      | none =>
        simp only [eh] at h
        cases h
      | some hd' =>
        simp only [eh] at h
        cases ec : codeE (denote tb) p w n₀ ann ro m ((c, pos) :: W) hd' c' pos s (cnt + 1) with
        | none =>
          simp only [ec] at h
          cases h
        | some v =>
          obtain ⟨f, p1, s1, cnt1⟩ := v
          simp only [ec] at h
          obtain ⟨n1, e1, t1, r1⟩ := codeE_ok m _ _ _ _ _ _ _ _ _ _ _ ec
          obtain ⟨n, e, t, r⟩ := semE_ok m _ _ _ _ _ _ _ _ _ _ _ _ h
          refine ⟨n1 + n + 1, by omega, fun lv B b1 b2 b3 K H => ?_, fun z => by rw [r z, r1 z]⟩
          obtain ⟨j, j1, j2⟩ := t lv B b1 b2 b3 K H
          obtain ⟨i, i1, i2⟩ := t1 (fun r => (k r).wrap K H id lv) hv (id g) (lv l) c pos (keptCall c' c (lv l)) B (by rw [b1]) b2 (hdOf_ok eh b3)
          refine ⟨i + j + 1, by omega, fun N r q => ?_⟩
          rw [show i + j + 1 + N = (i + (j + N)) + 1 by omega]
          refine topRun_go (thr (by intro f z; cases z)) rfl ?_ (i2 _ r (j2 N r q))
          obtain ⟨T, n', life, gens, drawn, toks, os⟩ := s
          rfl
    | _ => simp only [semE] at h; cases h
theorem codeE_ok : ∀ (m : Nat) (ro : Bool) (W : List (Code × Pos)) (hd : Option Value) (c : Code) (pos : Pos) (s : SharedT) (cnt : Nat) (f : Flow) (pos' : Pos) (s' : SharedT) (cnt' : Nat),
    codeE (denote tb) p w n₀ ann ro m W hd c pos s cnt = some (f, pos', s', cnt') → ∃ n, cnt' = cnt + n ∧ CR tb p w n₀ ann n W hd c pos s.abs f s'.abs ∧ (ro = true → s' = s)
  | 0, _, _, _, _, _, _, _, _, _, _, _, h => by simp [codeE] at h
  | m + 1, ro, W, hd, c, pos, s, cnt, f, pos', s', cnt', h => by
    simp only [codeE] at h
    split at h
    · rename_i f1 p1 s1 cnt1 e1
      cases h
      obtain ⟨n, e, t, r⟩ := semE_ok m _ _ _ _ _ _ _ _ _ _ _ _ e1
      refine ⟨n + 1, by omega, fun k hv g l cd p₀ kept B b1 b2 b3 => ?_, r⟩
      have b1' : (Frame.ret k hv g l cd p₀ kept :: B).map Frame.where_ = W := b1
      obtain ⟨j, j1, j2⟩ := t id (.ret k hv g l cd p₀ kept :: B) b1' (by simp only [splitAtGen, b2, Option.map_none]) b3 Sem.pure Sem.raise
      refine ⟨j + 1, by omega, fun N r q => ?_⟩
      have j3 := j2 (N + 1) r (topRun_go (t' := ⟨k (.ok f), cd, p₀, B⟩) rfl rfl rfl q)
      rw [wrap_id] at j3
      rw [show j + 1 + N = j + (N + 1) by omega]
      exact j3
    · rename_i c2 p1 s1 cnt1 e1
      split at h
      · rename_i ok
        obtain ⟨n, e, t, r⟩ := semE_ok m _ _ _ _ _ _ _ _ _ _ _ _ e1
        obtain ⟨n2, e2, t2, r2⟩ := codeE_ok m _ _ _ _ _ _ _ _ _ _ _ h
        refine ⟨n + n2 + 1, by omega, fun k hv g l cd p₀ kept B b1 b2 b3 => ?_, fun z => by rw [r2 z, r z]⟩
        have b1' : (Frame.ret k hv g l cd p₀ kept :: B).map Frame.where_ = W := b1
        obtain ⟨j, j1, j2⟩ := t id (.ret k hv g l cd p₀ kept :: B) b1' (by simp only [splitAtGen, b2, Option.map_none]) b3 Sem.pure Sem.raise
        obtain ⟨i, i1, i2⟩ := t2 k hv g l cd p₀ (keptBy c c2 l kept) B b1 b2 (hd_kept.trans b3)
        refine ⟨j + 1 + i, by omega, fun N r q => ?_⟩
        have ok' : stepOk n₀ ann ⟨.pure (.again c2), c, p1, .ret k hv g l cd p₀ kept :: B⟩ = true := by
          cases c2 <;> first | rfl | (simp only [againOk] at ok; simp only [stepOk, Thread.calm, Thread.atCollectorCode, Thread.yieldsInsideHandler]; rw [Bool.not_eq_true'] at ok; rw [ok]; rfl)
        have j3 := j2 (i + N + 1) r (topRun_go (s' := s1.abs) (t' := ⟨denote tb c2, c2, p1, .ret k hv g l cd p₀ (keptBy c c2 l kept) :: B⟩) rfl ok' (by
          obtain ⟨T, n', life, gens, drawn, toks, os⟩ := s1
          exact step_again) (i2 N r q))
        rw [wrap_id] at j3
        rw [show j + 1 + i + N = j + (i + N + 1) by omega]
        exact j3
      · cases h
    · cases h
end
end
/-! ### the dict's own words -/
section
variable {tb : String → Option Builtin} {p : Program} {w : World} {n₀ : Nat} {ann : Option Value} {α β : Type} {n m R : Nat} {W : List (Code × Pos)} {hd : Option Value} {c : Code} {lv : List Value → List Value} {pos pos1 pos2 : Pos} {s s1 s2 : Shared} {x : Sem α} {a : α}
theorem TR.holding {vs : List Value} (h : ∀ lv, TR tb p w n₀ ann n W hd c lv pos s x a pos1 s1) : TR tb p w n₀ ann n W hd c lv pos s (holding vs x) a pos1 s1 := by
  unfold PySem.holding
  split
  · exact h lv
  · exact TR.keep (h _)
theorem TR.ite {q : Prop} [Decidable q] {y : Sem α} (h1 : q → TR tb p w n₀ ann n W hd c lv pos s x a pos1 s1) (h2 : ¬ q → TR tb p w n₀ ann n W hd c lv pos s y a pos1 s1) : TR tb p w n₀ ann n W hd c lv pos s (if q then x else y) a pos1 s1 := by
  by_cases h : q
  · rw [if_pos h]
    exact h1 h
  · rw [if_neg h]
    exact h2 h
theorem forIn_TR {ι σ : Type} {f : ι → σ → Sem (ForInStep σ)} {acc : σ} : ∀ l : List ι, (∀ i ∈ l, TR tb p w n₀ ann n W hd c lv pos s (f i acc) (.yield acc) pos s) → TR tb p w n₀ ann (n * l.length) W hd c lv pos s (forIn l acc f) acc pos s
  | [], _ => by
    rw [List.forIn_nil]
    exact TR.pure
  | i :: l, h => by
    rw [List.forIn_cons]
    refine (TR.bindM (h i (by simp)) (forIn_TR l fun j m => h j (by simp [m]))).mono ?_
    rw [List.length_cons, Nat.mul_succ]
    omega
theorem entries_TR {d : Addr} {part : Option Value} {o : Obj} {es : Array DictEntry} {ep : Nat} (e : s.heap.get? d = some o) (ho : o.data = .dict es ep) : TR tb p w n₀ ann 1 W hd c lv pos s (dictEntries d part) es pos s := by
  unfold dictEntries loadPart
  refine TR.bindM (n := 1) (m := 0) (TR.load e TR.pure) ?_
  rw [ho]
  exact TR.pure
theorem epoch_TR {d : Addr} {part : Option Value} {o : Obj} {es : Array DictEntry} {ep : Nat} (e : s.heap.get? d = some o) (ho : o.data = .dict es ep) : TR tb p w n₀ ann 1 W hd c lv pos s (dictEpoch d part) ep pos s := by
  unfold dictEpoch loadPart
  refine TR.bindM (n := 1) (m := 0) (TR.load e TR.pure) ?_
  rw [ho]
  exact TR.pure
theorem tells_TR {key : Value} {stored : List Value} (hk : ∀ lv, TR tb p w n₀ ann R W hd c lv pos s (eqIsQuiet 8 key) true pos s) (hs : ∀ k ∈ stored, ∀ lv, TR tb p w n₀ ann R W hd c lv pos s (eqIsQuiet 8 k) true pos s) :
    TR tb p w n₀ ann (R + R * stored.length) W hd c lv pos s (tableMayTell key stored) false pos s := by
  unfold tableMayTell
  split
  · exact TR.pure.mono (Nat.zero_le _)
  · refine TR.bindM (hk lv) ?_
    rw [if_neg (by simp)]
    refine (TR.bindM (m := 0) (forIn_TR (n := R) (acc := ((none : Option Bool), ())) stored fun k hm => ?_) ?_).mono (Nat.le_refl _)
    · refine (TR.bindM (m := 0) (hs k hm lv) ?_).mono (Nat.le_refl _)
      rw [if_neg (by simp)]
      exact TR.pure
    · exact TR.pure
theorem places_at {es : Array DictEntry} {h : Int} {i : Nat} (hi : i ∈ placesWithHash es.size (fun i => es[i]?.map (·.hash)) h) : ∃ e, es[i]? = some e ∧ e ∈ es.toList := by
  unfold placesWithHash at hi
  have := (List.mem_filter.mp hi).1
  have lt : i < es.size := by simpa using this
  exact ⟨es[i], Array.getElem?_eq_getElem lt, Array.getElem_mem_toList lt⟩
theorem places_len {es : Array DictEntry} {h : Int} : (placesWithHash es.size (fun i => es[i]?.map (·.hash)) h).length ≤ es.size := by
  unfold placesWithHash
  exact Nat.le_trans (List.length_filter_le _ _) (by simp)
/-- a key that is none of those that stand: not found, whatever the hashes are -/
theorem find_TR {d b : Addr} {h : Int} {o : Obj} {es : Array DictEntry} {ep : Nat} (e : s.heap.get? d = some o) (ho : o.data = .dict es ep) (hne : ∀ e ∈ es.toList, (e.key == Value.ref b) = false)
    (hk : ∀ lv, TR tb p w n₀ ann R W hd c lv pos s (eqIsQuiet 8 (.ref b)) true pos s) (hq : ∀ e ∈ es.toList, ∀ lv, TR tb p w n₀ ann R W hd c lv pos s (eqIsQuiet 8 e.key) true pos s)
    (heq : ∀ e ∈ es.toList, ∀ lv, TR tb p w n₀ ann R W hd c lv pos s (eqBool e.key (.ref b)) false pos s) :
    TR tb p w n₀ ann (1 + (R + R * es.size) + (R + 4) * es.size) W hd c lv pos s (dictFind d (.ref b) h) none pos s := by
  unfold dictFind
  refine TR.holding fun lv => ?_
  refine (TR.bindM (m := (R + R * es.size) + (R + 4) * es.size) (entries_TR e ho) ?_).mono (by omega)
  dsimp only
  have hc : ((Value.ref b :: List.filterMap (fun i => Option.map (fun x : DictEntry => x.key) es[i]?) (placesWithHash es.size (fun i => Option.map (fun x : DictEntry => x.hash) es[i]?) h)).all carriedByValue = true) = False := by
    simp [carriedByValue]
  rw [if_neg (by rw [hc]; exact id)]
  have hany : (es.any fun e => e.key == Value.ref b && e.hash != h) = false := by
    rw [Array.any_eq_false']
    intro x hx
    have := hne x (Array.mem_toList_iff.mpr hx)
    rw [this]
    simp
  rw [if_neg (by rw [hany]; decide)]
  have hst : ∀ k ∈ List.filterMap (fun i => Option.map (fun x : DictEntry => x.key) es[i]?) (placesWithHash es.size (fun i => Option.map (fun x : DictEntry => x.hash) es[i]?) h), ∀ lv, TR tb p w n₀ ann R W hd c lv pos s (eqIsQuiet 8 k) true pos s := by
    intro k hm
    obtain ⟨i, hi, e1⟩ := List.mem_filterMap.mp hm
    obtain ⟨e', e2, e3⟩ := places_at hi
    rw [e2] at e1
    cases e1
    exact hq e' e3
  refine TR.ite (fun _ => ?_) (fun _ => ?_)
  · refine (TR.bindM (n := 0) (m := (R + 4) * es.size) TR.pure ?_).mono (by omega)
    · rw [if_neg (by simp)]
      refine (TR.bindM (m := 0) (forIn_TR (n := R + 4) (acc := ((none : Option (Option Nat)), (none : Option Nat))) _ fun i hi => ?_) ?_).mono (Nat.mul_le_mul_left _ places_len)
      · obtain ⟨e', e1, e2⟩ := places_at hi
        rw [e1]
        dsimp only
        refine TR.ite (fun _ => ?_) (fun _ => ?_)
        · refine (TR.bindM (n := 1) (m := R + 2) (epoch_TR e ho) (TR.bindM (m := 2) (heq e' e2 lv) (TR.bindM (n := 1) (m := 1) (epoch_TR e ho) ?_))).mono (by omega)
          rw [if_neg (by simp), if_neg (by decide)]
          exact TR.rule TR.pure
        · exact TR.pure.mono (Nat.zero_le _)
      · exact TR.pure
  · refine (TR.bindM (m := (R + 4) * es.size) (tells_TR hk hst) ?_).mono ?_
    · rw [if_neg (by simp)]
      refine (TR.bindM (m := 0) (forIn_TR (n := R + 4) (acc := ((none : Option (Option Nat)), (none : Option Nat))) _ fun i hi => ?_) ?_).mono (Nat.mul_le_mul_left _ places_len)
      · obtain ⟨e', e1, e2⟩ := places_at hi
        rw [e1]
        dsimp only
        refine TR.ite (fun _ => ?_) (fun _ => ?_)
        · refine (TR.bindM (n := 1) (m := R + 2) (epoch_TR e ho) (TR.bindM (m := 2) (heq e' e2 lv) (TR.bindM (n := 1) (m := 1) (epoch_TR e ho) ?_))).mono (by omega)
          rw [if_neg (by simp), if_neg (by decide)]
          exact TR.rule TR.pure
        · exact TR.pure.mono (Nat.zero_le _)
      · exact TR.pure
    have hl : (List.filterMap (fun i => Option.map (fun x : DictEntry => x.key) es[i]?) (placesWithHash es.size (fun i => Option.map (fun x : DictEntry => x.hash) es[i]?) h)).length ≤ es.size := Nat.le_trans (List.length_filterMap_le _ _) places_len
    have := Nat.mul_le_mul_left R hl
    omega
end
/-! ### the script of a dict's display -/
def redu (i : Int) : Int := if (decide (-2 ^ 63 ≤ i) && decide (i < 2 ^ 63)) = true then (if (i == -1) = true then -2 else i) else
  let m : Int := 2 ^ 61 - 1
  let h : Int := ↑i.natAbs % m
  let h : Int := if i < 0 then -h else h
  if (h == -1) = true then -2 else h
def refuse (v : Value) : Sem Value := do
  rule "hash.unhashable"
  let __do_lift ← PySem.typeNameOf v
  raiseErrorMade "TypeError" (toString "unhashable type: '" ++ toString __do_lift ++ toString "'")
abbrev RB : Nat := 1000
section
variable (den : Code → Sem PySem.Fin) (p : Program) (w : World) (n₀ : Nat) (ann : Option Value) (M : Nat) (W : List (Code × Pos)) (hd : Option Value) (c : Code)
/-- a run that comes back to its place -/
def stayT {α : Type} (ro : Bool) (pos : Pos) (s : SharedT) (x : Sem α) : Option (α × SharedT × Nat) := match semE den p w n₀ ann ro M W hd c pos s x 0 with
  | some (a, pos', s', n) => (match decide (pos' = pos) with
    | true => some (a, s', n)
    | false => none)
  | none => none
def roB (pos : Pos) (s : SharedT) (x : Sem Bool) (b : Bool) : Bool := match stayT den p w n₀ ann M W hd c true pos s x with
  | some (b', _, n) => b' == b && Nat.ble n RB
  | none => false
def hashT (pos : Pos) (s : SharedT) (v : Value) : Option (Int × SharedT × Nat) := match stayT den p w n₀ ann M W hd c false pos s (cRoomFor "hash" [v]) with
  | some (_, s1, n1) => (match stayT den p w n₀ ann M W hd c false pos s1 (specialOf v (Str.ofString "__hash__")) with
    | some (r1, s2, n2) => (match r1 == some Value.none with
      | true => none
      | false => (match stayT den p w n₀ ann M W hd c false pos s2 (specialOf v (Str.ofString "__hash__")) with
        | some (r2, s3, n3) => (match r2.isNone with
          | true => none
          | false => (match stayT den p w n₀ ann M W hd c false pos s3 (callSpecialIfBoundUnlessNone? v (Str.ofString "__hash__") (refuse v)) with
            | some (some (.int i _), s4, n4) => some (redu i, s4, n1 + (n2 + (n3 + (n4 + 1))))
            | _ => none))
        | none => none))
    | none => none)
  | none => none
def putS (d : Addr) (h : Int) (k v : Value) : Sem Unit := do
  rule "dict.set.new-key-at-the-end"
  updateDictKeys d (fun x => x.push { hash := h, key := k, val := v }) (keyPart k)
def setT (d : Addr) (pos : Pos) (s : SharedT) (k v : Value) : Option (SharedT × Nat) := match k with
  | .ref b => (match hashT den p w n₀ ann M W hd c pos s (.ref b) with
    | some (h, s1, n1) => (match getT s1 d with
      | some o => (match o.data with
        | .dict es _ => (match roB den p w n₀ ann M W hd c pos s1 (eqIsQuiet 8 (.ref b)) true && es.toList.all fun e => !(e.key == Value.ref b) && (roB den p w n₀ ann M W hd c pos s1 (eqIsQuiet 8 e.key) true && roB den p w n₀ ann M W hd c pos s1 (eqBool e.key (.ref b)) false) with
          | true => (match stayT den p w n₀ ann M W hd c false pos s1 (putS d h (.ref b) v) with
            | some (_, s2, n2) => some (s2, n1 + ((1 + (RB + RB * es.size) + (RB + 4) * es.size) + n2))
            | none => none)
          | false => none)
        | _ => none)
      | none => none)
    | none => none)
  | _ => none
def storeT (d : Addr) (pos : Pos) : List (Value × Value) → SharedT → Nat → Option (SharedT × Nat)
  | [], s, n => some (s, n)
  | (k, v) :: r, s, n => match setT den p w n₀ ann M W hd c d pos s k v with
    | some (s1, n1) => storeT d pos r s1 (n + n1)
    | none => none
end
section
variable {tb : String → Option Builtin} {p : Program} {w : World} {n₀ : Nat} {ann : Option Value} {α β : Type} {M : Nat} {W : List (Code × Pos)} {hd : Option Value} {c : Code} {lv : List Value → List Value} {pos pos1 pos2 : Pos} {s s1 s2 : SharedT} {x : Sem α} {a : α}
theorem stay_ok {ro : Bool} {n : Nat} (h : stayT (denote tb) p w n₀ ann M W hd c ro pos s x = some (a, s1, n)) : (∀ lv, TR tb p w n₀ ann n W hd c lv pos s.abs x a pos s1.abs) ∧ (ro = true → s1 = s) := by
  unfold stayT at h
  split at h
  · rename_i a' pos' s' n' e
    split at h
    · rename_i ep
      cases h
      have ep := of_decide_eq_true ep
      subst ep
      obtain ⟨m, e1, e2, e3⟩ := semE_ok M ro _ _ _ _ _ _ _ _ _ _ _ e
      have : m = n := by omega
      subst this
      exact ⟨e2, e3⟩
    · cases h
  · cases h
theorem roB_ok {x : Sem Bool} {b : Bool} (h : roB (denote tb) p w n₀ ann M W hd c pos s x b = true) : ∀ lv, TR tb p w n₀ ann RB W hd c lv pos s.abs x b pos s.abs := by
  unfold roB at h
  split at h
  · rename_i b' s' n' e
    rw [Bool.and_eq_true] at h
    have e1 : b' = b := eq_of_beq h.1
    subst e1
    obtain ⟨t, k⟩ := stay_ok e
    have := k rfl
    subst this
    exact fun lv => (t lv).mono (Nat.le_of_ble_eq_true h.2)
  · cases h
theorem redu_TR {i : Int} {s : Shared} : TR tb p w n₀ ann 1 W hd c lv pos s (pyHashByItsType.reduced i) (redu i) pos s := by
  unfold pyHashByItsType.reduced redu
  by_cases q : (decide (-2 ^ 63 ≤ i) && decide (i < 2 ^ 63)) = true
  · rw [if_pos q, if_pos q]
    exact TR.pure.mono (Nat.zero_le _)
  · rw [if_neg q, if_neg q]
    exact TR.rule TR.pure
theorem hash_ok {b : Addr} {h : Int} {n : Nat} (e : hashT (denote tb) p w n₀ ann M W hd c pos s (.ref b) = some (h, s1, n)) : ∀ lv, TR tb p w n₀ ann n W hd c lv pos s.abs (pyHash (.ref b)) h pos s1.abs := by
  unfold hashT at e
  split at e
  · rename_i u t1 n1 e1
    split at e
    · rename_i r1 t2 n2 e2
      split at e
      · cases e
      · rename_i c1
        split at e
        · rename_i r2 t3 n3 e3
          split at e
          · cases e
          · rename_i c2
            split at e
            · rename_i i tk t4 n4 e4
              cases e
              intro lv
              show TR tb p w n₀ ann _ W hd c lv pos s.abs (pyHashByItsType (.ref b)) _ pos _
              unfold pyHashByItsType
              refine TR.bindM ((stay_ok e1).1 lv) (TR.bindM ((stay_ok e2).1 lv) ?_)
              dsimp only
              rw [if_neg (by rw [c1]; decide)]
              refine TR.bindM ((stay_ok e3).1 lv) ?_
              rw [if_neg (by rw [c2]; decide)]
              exact TR.bindM ((stay_ok e4).1 lv) redu_TR
            · cases e
        · cases e
    · cases e
  · cases e
theorem set_ok {d : Addr} {k v : Value} {n : Nat} (e : setT (denote tb) p w n₀ ann M W hd c d pos s k v = some (s2, n)) : ∀ lv, TR tb p w n₀ ann n W hd c lv pos s.abs (dictSet d k v) () pos s2.abs := by
  unfold setT at e
  split at e
  · rename_i b
    split at e
    · rename_i h s1 n1 e1
      split at e
      · rename_i o eo
        split at e
        · rename_i es ep ed
          split at e
          · rename_i ck
            split at e
            · rename_i u s3 n2 e2
              cases e
              intro lv
              rw [Bool.and_eq_true, List.all_eq_true] at ck
              obtain ⟨ck1, ck2⟩ := ck
              have ck3 : ∀ e ∈ es.toList, (e.key == Value.ref b) = false ∧ roB (denote tb) p w n₀ ann M W hd c pos s1 (eqIsQuiet 8 e.key) true = true ∧ roB (denote tb) p w n₀ ann M W hd c pos s1 (eqBool e.key (.ref b)) false = true := fun e he => by
                have := ck2 e he
                rw [Bool.and_eq_true, Bool.and_eq_true] at this
                exact ⟨by simpa using this.1, this.2.1, this.2.2⟩
              have hg : s1.abs.heap.get? d = some o := by rw [← getT_eq]; exact eo
              unfold dictSet
              refine TR.holding fun lv => TR.bindM (hash_ok e1 lv) ?_
              unfold dictSetHashed
              refine TR.holding fun lv => TR.bindM (find_TR hg ed (fun e he => (ck3 e he).1) (roB_ok ck1) (fun e he => roB_ok (ck3 e he).2.1) fun e he => roB_ok (ck3 e he).2.2) ?_
              exact (stay_ok e2).1 lv
            · cases e
          · cases e
        · cases e
      · cases e
    · cases e
  · cases e
theorem store_ok {d : Addr} : ∀ (vs : List (Value × Value)) (s s' : SharedT) (n n' : Nat), storeT (denote tb) p w n₀ ann M W hd c d pos vs s n = some (s', n') → ∃ m, n' = n + m ∧ ∀ lv, TR tb p w n₀ ann m W hd c lv pos s.abs (forIn vs PUnit.unit fun (x : Value × Value) (_ : PUnit) => match x with
    | (k, v) => (do dictSet d k v; pure (ForInStep.yield PUnit.unit) : Sem (ForInStep PUnit))) PUnit.unit pos s'.abs
  | [], s, s', n, n', h => by
    unfold storeT at h
    cases h
    exact ⟨0, rfl, fun lv => by rw [List.forIn_nil]; exact TR.pure⟩
  | (k, v) :: r, s, s', n, n', h => by
    unfold storeT at h
    split at h
    · rename_i s1 n1 e
      obtain ⟨m, e1, e2⟩ := store_ok r _ _ _ _ h
      refine ⟨n1 + m, by omega, fun lv => ?_⟩
      rw [List.forIn_cons]
      exact TR.bindM (n := n1 + 0) (TR.bindM (set_ok e lv) TR.pure) (e2 lv)
    · cases h
end
/-! ### the statement, the body, the top -/
section
variable (den : Code → Sem PySem.Fin) (p : Program) (w : World) (n₀ : Nat) (ann : Option Value) (M : Nat)
def newD : Sem Addr := alloc { cls := Value.type "dict", data := Data.dict #[] }
def dictStmtT (W : List (Code × Pos)) (hd : Option Value) (c : Code) (env : Env) (st : Stmt) (pos : Pos) (s : SharedT) : Option (Pos × SharedT × Nat) := match st with
  | .Assign targets (.Dict keys values posD) posA => (match keys.all (·.isSome) && (Nat.beq keys.length values.length && (Nat.ble 1 keys.length && Nat.ble keys.length 15)) with
    | true => (match semE den p w n₀ ann false M W hd c posA s (swapsWithSole targets (.Dict keys values posD) posA.line env) 0 with
      | some (false, _, s1, n1) => (match semE den p w n₀ ann false M W hd c posD s1 newD 0 with
        | some (d, pos2, s2, n2) => (match semE den p w n₀ ann false M W hd c pos2 s2 (evalPairs (PySem.pairTrees keys values env posD)) 0 with
          | some (vs, pos3, s3, n3) => (match storeT den p w n₀ ann M W hd c d pos3 vs s3 0 with
            | some (s4, n4) => (match semE den p w n₀ ann false M W hd c pos3 s4 (swappedStores targets (.Dict keys values posD) env) 0 with
              | some (sw, pos5, s5, n5) => (match semE den p w n₀ ann false M W hd c pos5 s5 (assignStores env (.ref d) sw ((assignEach targets env).map (·.2))) 0 with
                | some (.next, pos6, s6, n6) => some (pos6, s6, 1 + (n1 + ((1 + (n2 + (n3 + n4))) + (n5 + n6))))
                | _ => none)
              | none => none)
            | none => none)
          | none => none)
        | none => none)
      | _ => none)
    | false => none)
  | _ => none
def c00 : Code := .builtin "claim.caller" {}
def prep : Sem (Value × Addr) := do
  let code ← moduleCode p.main
  let frame ← newBodyFrame code mainNs mainNs
  pure (code, frame)
def topEnv (v : Value × Addr) : Env := { scope := p.main.scope, locals := mainNs, globals := mainNs, cells := [], code := v.1, frame := some v.2 }
def topT (i : Nat) (s0 : SharedT) : Option (SharedT × Nat) := match semE den p w n₀ ann false M [] none c00 default s0 (prep p) 0 with
  | some (v, pos, s1, n1) => (match semE den p w n₀ ann false M [(c00, pos)] none (.body (behindTheImports p) (topEnv p v)) pos s1 (blockStart (behindTheImports p) (topEnv p v)) 0 with
    | some (_, pos2, s2, n2) => (match semE den p w n₀ ann false M [(c00, pos)] none (.body (behindTheImports p) (topEnv p v)) pos2 s2 (execs ((behindTheImports p).take i) (topEnv p v)) 0 with
      | some (.next, pos3, s3, n3) => (match (behindTheImports p).drop i with
        | st :: rest => (match dictStmtT den p w n₀ ann M [(c00, pos)] none (.body (behindTheImports p) (topEnv p v)) (topEnv p v) st pos3 s3 with
          | some (pos4, s4, n4) => (match semE den p w n₀ ann false M [(c00, pos)] none (.body (behindTheImports p) (topEnv p v)) pos4 s4 (execs rest (topEnv p v)) 0 with
            | some (.next, _, s5, n5) => some (s5, n1 + ((n2 + (n3 + (n4 + n5)) + 1) + 1))
            | _ => none)
          | none => none)
        | [] => none)
      | _ => none)
    | none => none)
  | none => none
end
section
variable {tb : String → Option Builtin} {p : Program} {w : World} {n₀ : Nat} {ann : Option Value} {α β : Type} {M n m : Nat} {W : List (Code × Pos)} {hd : Option Value} {c : Code} {lv : List Value → List Value} {pos pos1 pos2 : Pos} {s s1 s2 : SharedT} {x : Sem α} {a : α} {env : Env}
theorem semE_TR {ro : Bool} (h : semE (denote tb) p w n₀ ann ro M W hd c pos s x 0 = some (a, pos1, s1, n)) : ∀ lv, TR tb p w n₀ ann n W hd c lv pos s.abs x a pos1 s1.abs := by
  obtain ⟨m, e1, e2, e3⟩ := semE_ok M ro _ _ _ _ _ _ _ _ _ _ _ h
  have : m = n := by omega
  subst this
  exact e2
theorem stmt_ok {st : Stmt} (h : dictStmtT (denote tb) p w n₀ ann M W hd c env st pos s = some (pos1, s1, n)) : ∀ lv, TR tb p w n₀ ann n W hd c lv pos s.abs (exec st env) .next pos1 s1.abs := by
  unfold dictStmtT at h
  split at h
  · rename_i targets keys values posD posA
    split at h
    · rename_i ck
      split at h
      · rename_i q1 t1 n1 e1
        split at h
        · rename_i d q2 t2 n2 e2
          split at h
          · rename_i vs q3 t3 n3 e3
            split at h
            · rename_i t4 n4 e4
              split at h
              · rename_i sw q5 t5 n5 e5
                split at h
                · rename_i q6 t6 n6 e6
                  cases h
                  intro lv
                  simp only [Bool.and_eq_true] at ck
                  obtain ⟨k1, k2, k3, k4⟩ := ck
                  have k2 := Nat.eq_of_beq_eq_true k2
                  have k3 := Nat.le_of_ble_eq_true k3
                  have k4 := Nat.le_of_ble_eq_true k4
                  have hn := PySem.pairTrees_length keys values env posD k1 k2
                  have hp0 : PySem.pairTrees keys values env posD ≠ [] := by
                    intro he
                    rw [he] at hn
                    simp at hn
                    omega
                  rw [arm_exec_Assign]
                  refine TR.bindM (n := 1) (TR.at TR.pure) (TR.bindM (semE_TR e1 lv) ?_)
                  rw [if_neg (by decide)]
                  refine TR.bindM (n := 1 + (n2 + (n3 + n4))) (a := Value.ref d) ?_ (TR.bindM (semE_TR e5 lv) (semE_TR e6 lv))
                  rw [arm_eval_Dict, PySem.zip_pairTrees keys values env posD k1 k2, PySem.dictDisplay_pairs _ hp0 (by rw [hn]; omega)]
                  refine TR.bindM (n := 1) (TR.at TR.pure) (TR.bindM (m := 0) (n := n2 + (n3 + n4)) ?_ TR.pure)
                  unfold subDict
                  refine TR.bindM (semE_TR e2 lv) (TR.bindM (m := 0) (n := n3 + n4) (a := ()) (TR.holding fun lv => ?_) TR.pure)
                  rw [if_pos (by rw [hn]; exact k4)]
                  refine TR.bindM (semE_TR e3 lv) (TR.holding fun lv => ?_)
                  obtain ⟨m, m1, m2⟩ := store_ok _ _ _ _ _ e4
                  have : m = n4 := by omega
                  subst this
                  exact TR.bindM (m := 0) (m2 lv) TR.pure
                · cases h
              · cases h
            · cases h
          · cases h
        · cases h
      · cases h
    · cases h
  · cases h
theorem TR.app {l rest : List Stmt} {s s1 s2 : Shared} (h : TR tb p w n₀ ann n W hd c lv pos s (execs l env) .next pos1 s1) (k : TR tb p w n₀ ann m W hd c lv pos1 s1 (execs rest env) .next pos2 s2) : TR tb p w n₀ ann (n + m) W hd c lv pos s (execs (l ++ rest) env) .next pos2 s2 := fun B b1 b2 b3 K H => by
  obtain ⟨j, j1, j2⟩ := h B b1 b2 b3 (fun f => match f with | .next => (execs rest env).wrap K H id lv | f => K f) H
  obtain ⟨i, i1, i2⟩ := k B b1 b2 b3 K H
  refine ⟨j + i, by omega, fun N r q => ?_⟩
  rw [execs_app_wrap, Nat.add_assoc]
  exact j2 _ r (i2 N r q)
theorem TR.cons {st : Stmt} {rest : List Stmt} {s s1 s2 : Shared} (h : TR tb p w n₀ ann n W hd c lv pos s (exec st env) .next pos1 s1) (k : TR tb p w n₀ ann m W hd c lv pos1 s1 (execs rest env) .next pos2 s2) : TR tb p w n₀ ann (n + m) W hd c lv pos s (execs (st :: rest) env) .next pos2 s2 := fun B b1 b2 b3 K H => by
  obtain ⟨j, j1, j2⟩ := h B b1 b2 b3 (fun f => match f with | .next => (execs rest env).wrap K H id lv | f => K f) H
  obtain ⟨i, i1, i2⟩ := k B b1 b2 b3 K H
  refine ⟨j + i, by omega, fun N r q => ?_⟩
  rw [execs_cons_wrap, Nat.add_assoc]
  exact j2 _ r (i2 N r q)
theorem TR.body {b : List Stmt} {s s1 s2 : Shared} (h : TR tb p w n₀ ann n W hd c id pos s (blockStart b env) () pos1 s1) (k : TR tb p w n₀ ann m W hd c id pos1 s1 (execs b env) .next pos2 s2) : TR tb p w n₀ ann (n + m) W hd c id pos s (denote tb (.body b env)) (.done .next) pos2 s2 := fun B b1 b2 b3 K H => by
  obtain ⟨j, j1, j2⟩ := h B b1 b2 b3 (fun _ => ((execs b env).wrap doneF (leaveH env) id id).wrap K H id id) H
  obtain ⟨i, i1, i2⟩ := k B b1 b2 b3 (fun f => K (.done f)) (fun e => (leaveH env e).wrap K H id id)
  refine ⟨j + i, by omega, fun N r q => ?_⟩
  rw [body_wrap, Sem.wrap_wrap, Nat.add_assoc]
  refine j2 _ r ?_
  rw [Sem.wrap_wrap]
  exact i2 N r q
/-- a call, by what its code reaches -/
theorem TR.callD {c' : Code} {g : Bool} {l : List Value} {k : Result → Sem α} {f : Flow} {s s1 s2 : Shared} (h : TR tb p w n₀ ann n ((c, pos) :: W) hd c' id pos s (denote tb c') (.done f) pos1 s1) (q : TR tb p w n₀ ann m W hd c lv pos s1 (k (.ok f)) a pos2 s2) :
    TR tb p w n₀ ann ((n + 1) + m + 1) W hd c lv pos s (.call c' none g l k) a pos2 s2 := fun B b1 b2 b3 K H => by
  obtain ⟨j, j1, j2⟩ := q B b1 b2 b3 K H
  have hW : (Frame.ret (fun r => (k r).wrap K H id lv) none (id g) (lv l) c pos (keptCall c' c (lv l)) :: B).map Frame.where_ = (c, pos) :: W := by rw [← b1]; rfl
  obtain ⟨i, i1, i2⟩ := h (.ret (fun r => (k r).wrap K H id lv) none (id g) (lv l) c pos (keptCall c' c (lv l)) :: B) hW (by simp only [splitAtGen, b2, Option.map_none]) (by rw [← b3]; simp only [topHandled, topHandled.go]) Sem.pure Sem.raise
  refine ⟨i + 1 + j + 1, by omega, fun N r z => ?_⟩
  rw [show i + 1 + j + 1 + N = (i + (j + N + 1)) + 1 by omega]
  have y := i2 (j + N + 1) r (topRun_go (t' := ⟨(k (.ok f)).wrap K H id lv, c, pos, B⟩) rfl rfl rfl (j2 N r z))
  rw [wrap_id] at y
  refine topRun_go (thr (by intro f z; cases z)) rfl ?_ y
  obtain ⟨hp, gens, drawn, toks, os⟩ := s
  rfl
theorem top_ok {i : Nat} (h : topT (denote tb) p w n₀ ann M i s = some (s1, n)) : topRun tb p w n₀ ann (n + 1) s.abs (topStub p) = some s1.abs := by
  unfold topT at h
  split at h
  · rename_i v q1 t1 n1 e1
    split at h
    · rename_i u q2 t2 n2 e2
      split at h
      · rename_i q3 t3 n3 e3
        split at h
        · rename_i st rest el
          split at h
          · rename_i q4 t4 n4 e4
            split at h
            · rename_i q5 t5 n5 e5
              cases h
              have hb : behindTheImports p = (behindTheImports p).take i ++ st :: rest := by rw [← el, List.take_append_drop]
              have body := TR.body (semE_TR e2 id) (by
                have z := TR.app (semE_TR e3 id) (TR.cons (stmt_ok e4 id) (semE_TR e5 id))
                rw [← hb] at z
                exact z)
              have all : TR tb p w n₀ ann (n1 + ((n2 + (n3 + (n4 + n5)) + 1) + 1)) [] none c00 id default s.abs (prep p >>= fun v => (PySem.run (.body (behindTheImports p) (topEnv p v)) >>= fun _ => (ret Value.none : Sem PySem.Fin))) (.done (.ret .none)) q1 s1.abs := by
                refine TR.bindM (semE_TR e1 id) (TR.bindM (m := 0) (n := (n2 + (n3 + (n4 + n5)) + 1) + 1) (a := Flow.next) ?_ TR.pure)
                unfold PySem.run
                exact TR.callD (m := 0) body TR.pure
              obtain ⟨j, j1, j2⟩ := all [] rfl rfl rfl Sem.pure Sem.raise
              have z := j2 1 s1.abs rfl
              rw [wrap_id] at z
              have es : topStub p = ⟨prep p >>= fun v => (PySem.run (.body (behindTheImports p) (topEnv p v)) >>= fun _ => (ret Value.none : Sem PySem.Fin)), c00, default, []⟩ := by
                unfold topStub prep
                simp only [bind_assoc, pure_bind]
                rfl
              rw [es]
              have := topRun_mono (n1 + ((n2 + (n3 + (n4 + n5)) + 1) + 1) - j) _ _ _ _ z
              rw [show j + 1 + (n1 + ((n2 + (n3 + (n4 + n5)) + 1) + 1) - j) = n1 + ((n2 + (n3 + (n4 + n5)) + 1) + 1) + 1 by omega] at this
              exact this
            · cases h
          · cases h
        · cases h
      · cases h
    · cases h
  · cases h
end
/-! ### the head -/
noncomputable def endX (den : Code → Sem PySem.Fin) (M i : Nat) (p : Program) (w : World) (os : OsState) : Option (SharedT × Nat) := match putAll (boot_heap w.params).objs.toList .nil 0 with
  | some (t, n) => frNat n fun n0 => topT den p w n0 (bootAnn w) M i (bootT w os (t, n0))
  | none => none
theorem endX_ok {M i k : Nat} {p : Program} {w : World} {os : OsState} {s : SharedT} (h : endX (denote treeTable) M i p w os = some (s, k)) :
    topRun treeTable p w (boot_heap w.params).objs.size (bootAnn w) (k + 1) ⟨boot_heap w.params, #[], boot_drawn, boot_toks, os⟩ (topStub p) = some s.abs := by
  unfold endX at h
  cases e : putAll (boot_heap w.params).objs.toList .nil 0 with
  | none =>
    rw [e] at h
    cases h
  | some r =>
    obtain ⟨t, n⟩ := r
    rw [e] at h
    have h1 : (frNat n fun n0 => topT (denote treeTable) p w n0 (bootAnn w) M i (bootT w os (t, n0))) = some (s, k) := h
    rw [frNat_eq] at h1
    have q := top_ok h1
    have eh := putAll_heap e
    have en : (boot_heap w.params).objs.size = n := by
      rw [← eh]
      exact absHeap_size t n _
    have eb : (bootT w os (t, n)).abs = ⟨boot_heap w.params, #[], boot_drawn, boot_toks, os⟩ := by
      show (⟨absHeap t n (boot_heap w.params).life, #[], boot_drawn, boot_toks, os⟩ : Shared) = _
      rw [eh]
    rw [eb] at q
    rw [en]
    exact q
/-- the run's equation, where the i-th statement writes a dict of tuples -/
def RunX (r : OpenRow) (q : Program) (H : Hook) (ob : SharedT → H.α) (M N i : Nat) (loose : List PySem.Str) (w : World) : Prop :=
  ∀ os : OsState, (endX (denQ tabQ) M i r.prog w os).map (fun s => (Nat.ble (s.2 + 1) N, looksF r.prog (boot_heap w.params) s.1.abs, seenQ q loose (importedModules r.prog.main.body) (fun s => xlAt q [] s && recOk r.toRowW.records s) s.1.abs, ob s.1)) = some (true, true, openGood q loose, H.val w)
theorem left_X {p q : Program} {loose : List PySem.Str} {Xt : Shared → Bool} {α : Type} {Yf : Shared → α} {Ya : World → α} {N M i : Nat}
    (e : opening p = plainProg p.main.scope.names) (hN : Nat.ble 600 N = true) (f : ∀ s, fenceModules? p s = some s)
    (run : ∀ (w : World) (os : OsState), (endX (denote treeTable) M i p w os).map (fun s => (Nat.ble (s.2 + 1) N, looksF p (boot_heap w.params) s.1.abs, openSeen q loose (importedModules p.main.body) Xt true s.1.abs, Yf s.1.abs)) = some (true, true, openGood q loose, Ya w)) :
    LeftO p q loose Xt Yf Ya N true := fun w => by
  obtain ⟨⟨h, gs, d, k, os⟩, a, a'⟩ := Option.map_eq_some_iff.mp (boot_open e hN f w)
  obtain ⟨rfl, rfl, rfl, rfl⟩ : h = boot_heap w.params ∧ gs = Array.mk [] ∧ d = boot_drawn ∧ k = boot_toks := by simpa using a'
  obtain ⟨⟨s, k⟩, hs, hv⟩ := Option.map_eq_some_iff.mp (run w os)
  obtain ⟨l0, l1, l2, l3⟩ : _ ∧ _ ∧ _ ∧ _ := by simpa only [Prod.mk.injEq] using hv
  have l0 := Nat.le_of_ble_eq_true l0
  have r := topRun_mono (N - (k + 1)) _ _ _ _ (endX_ok hs)
  rw [show k + 1 + (N - (k + 1)) = N by omega] at r
  have l1' : (staticsOk (importedModules p.main.body) (boot_heap w.params) s.abs.heap && namesBound p s.abs.heap && gensDone s.abs && laidKept (boot_heap w.params) s.abs.heap) = true := l1
  have t : topFrom treeTable p w N ⟨boot_heap w.params, Array.mk [], boot_drawn, boot_toks, os⟩ = some s.abs := by
    unfold topFrom
    dsimp only
    rw [boot_ns]
    show (topRun treeTable p w (boot_heap w.params).objs.size (bootAnn w) N ⟨boot_heap w.params, #[], boot_drawn, boot_toks, os⟩ (topStub p)).bind _ = _
    rw [r]
    show (match staticsOk (importedModules p.main.body) (boot_heap w.params) s.abs.heap && namesBound p s.abs.heap && gensDone s.abs && laidKept (boot_heap w.params) s.abs.heap with | true => some s.abs | false => none) = _
    rw [l1']
  unfold openEnds
  rw [a]
  show (topFrom treeTable p w N _).map _ = _
  rw [t]
  exact congrArg some (Prod.ext l2 l3)
theorem endXQ_eq (M i : Nat) (p : Program) (w : World) (os : OsState) : endX (denote treeTable) M i p w os = endX (denQ tabQ) M i p w os := by
  rw [denQ_eq, tabQ_eq]
theorem head_X {r : OpenRow} {q : Program} {H : Hook} {ob : SharedT → H.α} {M N i : Nat} {loose : List PySem.Str} {d : DefRec} {kwd : List (PySem.Str × PySem.Expr)} (ho : ∀ s : SharedT, ob s = H.obs s.abs)
    (e : opening r.prog = plainProg r.prog.main.scope.names) (hN : Nat.ble 600 N = true) (f : ∀ s, fenceModules? r.prog s = some s) (run : ∀ w, RunX r q H ob M N i loose w)
    (hdef : defOf q r.name = some (d, kwd)) (hp : r.prog.theDef r.name = some (d.params, d.body, d.scope)) (hk : kwWritten? d.params.kwonlyargs d.params.kw_defaults = some kwd)
    (hwr : (!r.writes || r.records.isEmpty) = true) (k1 : r.wellSaid = true) (ok : (chainsOk q && opensWell r.prog && (frees r.toRowW && r.within.isEmpty)) = true) (hb : r.prog.bare) (hw : r.toRowW.promised)
    (call : WalkO q loose (XL q []) H.says r.toRowW d kwd fun f vs => PySem.call f vs) : r.Holds := by
  have left : LeftO r.prog q loose (fun s => xlAt q [] s && recOk r.toRowW.records s) H.obs H.val N true :=
    left_X (M := M) (i := i) e hN f fun w os => by
      have z := run w os
      have eo : ob = fun s => H.obs s.abs := funext ho
      rw [eo] at z
      simp only [endXQ_eq, seenQ_eq]
      exact z
  exact holds_open (r := r) (q := q) (loose := loose) (XP := XL q []) (YP := H.says) (d := d) (kwd := kwd) left H.of H.keeps (fun s z => xl_of s (Bool.and_eq_true_iff.mp z).1) XL.keeps hdef hp hk (fun s z => recFacts_of (Bool.and_eq_true_iff.mp z).2) hwr k1 ok hb hw call
end RbH
namespace Rb01
open PySem PySem.Spec PyProof.Rows L2 Rb
/-! rows of the walk: lk (what stands at an address), ne, sq, sz, i (one step), go (steps) -/
local macro_rules | `(tactic| walk_at "ne") => `(tactic| first | assumption | (refine Ne.symm ?_; assumption) | exact ne_fresh (by assumption) (by walk_at "lk") | exact (ne_fresh (by assumption) (by walk_at "lk")).symm | exact ne_of (by walk_at "lk") (by walk_at "lk") (by intro z; cases z))
local macro_rules | `(tactic| walk_at "lk") => `(tactic| first | assumption | exact upd_same | ((with_reducible refine upd_at ?n ?h); (case n => walk_at "ne"); (case h => walk_at "lk")) | (refine Same.get (by assumption) ?_; walk_at "lk"))
local macro_rules | `(tactic| walk_at "sq") => `(tactic| first | assumption | exact sqL (by walk_at "lk") | exact sqT (by walk_at "lk"))
local macro_rules | `(tactic| walk_at "sz") => `(tactic| (rw [sizeLine_eq]; first | exact Nat.le_of_ble_eq_true rfl | omega))
local macro_rules | `(tactic| walk_at "i1") => `(tactic| with_reducible first
  | refine i_seq ?_ | refine i_asg ?_ | refine i_gname ?_ | refine i_ret ?_ | refine i_next ?_ | refine i_drop ?_ | refine i_ifS ?_ | refine i_gsub ?_ | refine i_augS ?_ | refine i_sfld ?_ | refine i_cont ?_ | refine i_retN ?_
  | refine i_op ?_ | refine i_c ?_ | refine i_cons ?_ | refine i_nil ?_ | refine i_cb ?_ | refine i_test ?_ | refine i_tru ?_ | refine i_not ?_ | refine i_and ?_ | refine i_or ?_ | refine i_B ?_ | refine i_fld ?_ | refine i_call ?_ | refine i_meth ?_ | refine i_make ?_
  | refine i_tup ?_ | refine i_lst ?_ | refine i_un ?_ | refine i_bm ?_ | refine i_bm0 ?_ | refine i_sl ?_ | refine i_nopart ?_ | refine i_part ?_ | refine i_partIn ?_ | refine i_chain ?_ | refine i_andV ?_ | refine i_orV ?_ | refine i_notV ?_ | refine i_if ?_ | refine i_dnew ?_
  | refine i_bl ?_ | refine i_blC ?_ | refine i_truB ?_ | refine i_neg ?_ | refine i_addI ?_ | refine i_addI2 ?_ | refine i_subI ?_ | refine i_ltI ?_ | refine i_leI ?_ | refine i_gtI ?_ | refine i_geI ?_ | refine i_isN ?_ | refine i_notN ?_ | refine i_isB ?_ | refine i_notB ?_ | refine i_eqI ?_ | refine i_neI ?_ | refine i_eqB ?_ | refine i_neB ?_
  | refine i_absI ?_ | refine i_intI ?_ | refine i_intB ?_ | refine i_min2 ?_ | refine i_max2 ?_ | refine i_ipI ?_ | refine i_gnil ?_ | refine i_gcons ?_
  | refine i_for ?_ | refine i_lc ?_ | refine i_rng1 ?_ | refine i_rng2 ?_ | refine i_list ?_ | refine i_tupI ?_ | refine i_yes ?_ | refine i_dget2 ?_ | refine i_din ?_ | refine i_dput ?_)
local macro_rules | `(tactic| walk_at "i") => `(tactic| first
  | walk_at "i1"
  | ((with_reducible refine' i_var ?h ?_); (case h => exact rfl))
  | ((with_reducible refine' i_aug ?h ?_); (case h => exact rfl))
  | ((with_reducible refine' i_ixL ?h ?a ?_); (case h => walk_at "sq"); (case a => exact rfl))
  | ((with_reducible refine' i_ixT ?h ?a ?_); (case h => walk_at "sq"); (case a => exact rfl))
  | ((with_reducible refine' i_ixLn ?h ?b ?a ?_); (case h => walk_at "sq"); (case b => decide); (case a => exact rfl))
  | ((with_reducible refine' i_ixTn ?h ?b ?a ?_); (case h => walk_at "sq"); (case b => decide); (case a => exact rfl))
  | ((with_reducible refine' i_getL ?h ?a ?b ?_); (case h => walk_at "sq"); (case a => decide); (case b => exact rfl))
  | ((with_reducible refine' i_setL ?h ?a ?_); (case h => walk_at "lk"); (case a => exact rfl))
  | ((with_reducible refine' i_mulI ?h ?_); (case h => first | exact Or.inr (by decide) | exact Or.inl (by decide)))
  | ((with_reducible refine' i_divI ?h ?_); (case h => first | exact (by decide) | exact ⟨by omega, by omega⟩))
  | ((with_reducible refine' i_modI ?h ?_); (case h => first | exact (by decide) | omega))
  | ((with_reducible refine' i_powI ?h ?_); (case h => exact ⟨by decide, by decide, by decide⟩))
  | ((with_reducible refine' i_eqS ?a ?b ?_); (case a => decide +kernel); (case b => decide +kernel))
  | ((with_reducible refine' i_neS ?a ?b ?_); (case a => decide +kernel); (case b => decide +kernel))
  | ((with_reducible refine' i_lenL ?h ?_); (case h => walk_at "sq"))
  | ((with_reducible refine' i_lenT ?h ?_); (case h => walk_at "sq"))
  | ((with_reducible refine' i_listL ?h ?_); (case h => walk_at "sq"))
  | ((with_reducible refine' i_listT ?h ?_); (case h => walk_at "sq"))
  | ((with_reducible refine' i_tupL ?h ?_); (case h => walk_at "sq"))
  | ((with_reducible refine' i_tupT ?h ?_); (case h => walk_at "sq"))
  | ((with_reducible refine' i_tyL ?h ?_); (case h => walk_at "sq"))
  | ((with_reducible refine' i_truL ?h ?_); (case h => walk_at "sq"))
  | ((with_reducible refine' i_gtup ?h ?l ?_); (case h => walk_at "sq"); (case l => exact rfl))
  | ((with_reducible refine' i_rng1In ?a ?b ?_); (case a => omega); (case b => omega))
  | ((with_reducible refine' i_rng2In ?a ?_); (case a => omega))
  | ((with_reducible refine' i_listIn ?a ?_); (case a => walk_at "sq"))
  | ((with_reducible refine' i_tupIn ?a ?_); (case a => walk_at "sq"))
  | ((with_reducible refine And.intro ?h ?_); (case h => walk_at "sz"))
  | ((with_reducible refine' i_iteT ?h ?_); (case h => first | rfl | assumption))
  | ((with_reducible refine' i_iteF ?h ?_); (case h => first | rfl | assumption)))
local macro_rules | `(tactic| walk_at "go") => `(tactic| repeat walk_at "i")
local macro_rules | `(tactic| walk_at "i") => `(tactic| with_reducible first | refine i_callS ?_ | refine i_methS ?_ | refine i_tryAs ?_ | refine i_tryOnly ?_ | refine i_isE ?_)
local macro_rules | `(tactic| walk_at "br") => `(tactic| first | refine i_iteT (decide_eq_true (by omega)) ?_ | refine i_iteF (decide_eq_false (by omega)) ?_ | refine i_iteT (by simp only [Bool.not_eq_true', decide_eq_false_iff_not]; omega) ?_ | refine i_iteF (by simp only [Bool.not_eq_false', decide_eq_true_eq]; omega) ?_)
structure Zx (K : PySem.W.Frag) : Prop where
  mm : PySem.W.exmOne K (.ref (He.ga K "NotValid")) (.ref (He.ga K "RingError")) = some true
  M : MemCls K
theorem ixNat {n : Nat} {i : Int} (h0 : 0 ≤ i) (h1 : i < n) : ixN n i = some i.toNat := by
  unfold ixN
  rw [if_pos h0, if_pos h1]
def q_frame_cell (K : PySem.W.Frag) (a0 a1 a2 : V) (H : Hp) (Q : VK) (E : XK) : Prop := ∃ d f i : Int, a0 = .int d ∧ a1 = .int f ∧ a2 = .int i ∧ Q (.int (24 * d + 4 * f + i)) H
def sp_frame_cell (K : PySem.W.Frag) : Sp := fun vs H Q E => match vs with
  | [a0, a1, a2] => q_frame_cell K a0 a1 a2 H Q E
  | _ => False
abbrev N_frame_cell : List Str := ["device", "frame", "index"]
def t_frame_cell (K : PySem.W.Frag) (E : XK) : TS :=
  tRet (tOp (rAddA K) (tOp (rAddA K) (tOp (rMulA K) (tOp (rMulA K) (tC (.int 6)) (tC (.int 4))) (tVar 0)) (tOp (rMulA K) (tC (.int 4)) (tVar 1))) (tVar 2))
theorem pure_frame_cell {K : PySem.W.Frag} {a0 a1 a2 : V} {H : Hp} {Q : VK} {E : XK} (h : q_frame_cell K a0 a1 a2 H Q E) : t_frame_cell K E { nx := fun _ H' => Q .non H', rt := Q } (start N_frame_cell [a0, a1, a2]) H := by
  obtain ⟨d, f, i, rfl, rfl, rfl, q⟩ := h
  unfold t_frame_cell
  walk_at "go"
  exact q
def q_doorbell (K : PySem.W.Frag) (a0 : V) (H : Hp) (Q : VK) (E : XK) : Prop := ∃ d : Int, a0 = .int d ∧ Q (.int (48 + 4 * d)) H
def sp_doorbell (K : PySem.W.Frag) : Sp := fun vs H Q E => match vs with
  | [a0] => q_doorbell K a0 H Q E
  | _ => False
abbrev N_doorbell : List Str := ["device"]
def t_doorbell (K : PySem.W.Frag) (E : XK) : TS :=
  tRet (tOp (rAddA K) (tC (.int 48)) (tOp (rMulA K) (tC (.int 4)) (tVar 0)))
theorem pure_doorbell {K : PySem.W.Frag} {a0 : V} {H : Hp} {Q : VK} {E : XK} (h : q_doorbell K a0 H Q E) : t_doorbell K E { nx := fun _ H' => Q .non H', rt := Q } (start N_doorbell [a0]) H := by
  obtain ⟨d, rfl, q⟩ := h
  unfold t_doorbell
  walk_at "go"
  exact q
def q_reset (K : PySem.W.Frag) (a0 : V) (H : Hp) (Q : VK) (E : XK) : Prop := ∃ d : Int, a0 = .int d ∧ Q (.int (48 + 4 * d + 1)) H
def sp_reset (K : PySem.W.Frag) : Sp := fun vs H Q E => match vs with
  | [a0] => q_reset K a0 H Q E
  | _ => False
abbrev N_reset : List Str := ["device"]
def t_reset (K : PySem.W.Frag) (E : XK) : TS :=
  tRet (tOp (rAddA K) (tCall (sp_doorbell K) [] E0 (tCons (tVar 0) (tNil))) (tC (.int 1)))
theorem pure_reset {K : PySem.W.Frag} {a0 : V} {H : Hp} {Q : VK} {E : XK} (h : q_reset K a0 H Q E) : t_reset K E { nx := fun _ H' => Q .non H', rt := Q } (start N_reset [a0]) H := by
  obtain ⟨d, rfl, q⟩ := h
  unfold t_reset
  walk_at "go"
  refine ⟨d, rfl, ?_⟩
  walk_at "go"
  exact q
def q_ready (K : PySem.W.Frag) (a0 : V) (H : Hp) (Q : VK) (E : XK) : Prop := ∃ d : Int, a0 = .int d ∧ Q (.int (48 + 4 * d + 2)) H
def sp_ready (K : PySem.W.Frag) : Sp := fun vs H Q E => match vs with
  | [a0] => q_ready K a0 H Q E
  | _ => False
abbrev N_ready : List Str := ["device"]
def t_ready (K : PySem.W.Frag) (E : XK) : TS :=
  tRet (tOp (rAddA K) (tCall (sp_doorbell K) [] E0 (tCons (tVar 0) (tNil))) (tC (.int 2)))
theorem pure_ready {K : PySem.W.Frag} {a0 : V} {H : Hp} {Q : VK} {E : XK} (h : q_ready K a0 H Q E) : t_ready K E { nx := fun _ H' => Q .non H', rt := Q } (start N_ready [a0]) H := by
  obtain ⟨d, rfl, q⟩ := h
  unfold t_ready
  walk_at "go"
  refine ⟨d, rfl, ?_⟩
  walk_at "go"
  exact q
def q_interrupt (K : PySem.W.Frag) (a0 : V) (H : Hp) (Q : VK) (E : XK) : Prop := ∃ d : Int, a0 = .int d ∧ Q (.int (48 + 4 * d + 3)) H
def sp_interrupt (K : PySem.W.Frag) : Sp := fun vs H Q E => match vs with
  | [a0] => q_interrupt K a0 H Q E
  | _ => False
abbrev N_interrupt : List Str := ["device"]
def t_interrupt (K : PySem.W.Frag) (E : XK) : TS :=
  tRet (tOp (rAddA K) (tCall (sp_doorbell K) [] E0 (tCons (tVar 0) (tNil))) (tC (.int 3)))
theorem pure_interrupt {K : PySem.W.Frag} {a0 : V} {H : Hp} {Q : VK} {E : XK} (h : q_interrupt K a0 H Q E) : t_interrupt K E { nx := fun _ H' => Q .non H', rt := Q } (start N_interrupt [a0]) H := by
  obtain ⟨d, rfl, q⟩ := h
  unfold t_interrupt
  walk_at "go"
  refine ⟨d, rfl, ?_⟩
  walk_at "go"
  exact q
def q_table_word (K : PySem.W.Frag) (a0 a1 : V) (H : Hp) (Q : VK) (E : XK) : Prop := ∃ d p : Int, a0 = .int d ∧ a1 = .int p ∧ Q (.int (56 + 6 * d + p)) H
def sp_table_word (K : PySem.W.Frag) : Sp := fun vs H Q E => match vs with
  | [a0, a1] => q_table_word K a0 a1 H Q E
  | _ => False
abbrev N_table_word : List Str := ["device", "page"]
def t_table_word (K : PySem.W.Frag) (E : XK) : TS :=
  tRet (tOp (rAddA K) (tOp (rAddA K) (tC (.int 56)) (tOp (rMulA K) (tC (.int 6)) (tVar 0))) (tVar 1))
theorem pure_table_word {K : PySem.W.Frag} {a0 a1 : V} {H : Hp} {Q : VK} {E : XK} (h : q_table_word K a0 a1 H Q E) : t_table_word K E { nx := fun _ H' => Q .non H', rt := Q } (start N_table_word [a0, a1]) H := by
  obtain ⟨d, p, rfl, rfl, q⟩ := h
  unfold t_table_word
  walk_at "go"
  exact q
def q_acknowledge (K : PySem.W.Frag) (a0 : V) (H : Hp) (Q : VK) (E : XK) : Prop := ∃ d : Int, a0 = .int d ∧ Q (.int (68 + d)) H
def sp_acknowledge (K : PySem.W.Frag) : Sp := fun vs H Q E => match vs with
  | [a0] => q_acknowledge K a0 H Q E
  | _ => False
abbrev N_acknowledge : List Str := ["device"]
def t_acknowledge (K : PySem.W.Frag) (E : XK) : TS :=
  tRet (tOp (rAddA K) (tC (.int 68)) (tVar 0))
theorem pure_acknowledge {K : PySem.W.Frag} {a0 : V} {H : Hp} {Q : VK} {E : XK} (h : q_acknowledge K a0 H Q E) : t_acknowledge K E { nx := fun _ H' => Q .non H', rt := Q } (start N_acknowledge [a0]) H := by
  obtain ⟨d, rfl, q⟩ := h
  unfold t_acknowledge
  walk_at "go"
  exact q
def q_law_listed (K : PySem.W.Frag) (H : Hp) (Q : VK) (E : XK) : Prop := ∀ (l : Addr) (H' : Hp), Same H H' → H' l = some (.lst (rangeL 70)) → Q (.ref l) H'
def sp_law_listed (K : PySem.W.Frag) : Sp := fun vs H Q E => match vs with
  | [] => q_law_listed K  H Q E
  | _ => False
abbrev N_law_listed : List Str := ["_law_cells", "_law_device", "_law_frame", "_law_page", "_law_index"]
def t_law_listed (K : PySem.W.Frag) (E : XK) : TS :=
  tSeq (tAsg (tLst (tNil)) (gName 0)) (tSeq (tFor (iRng1 (tCons (tC (.int 2)) (tNil))) (gName 1) (tFor (iRng1 (tCons (tC (.int 6)) (tNil))) (gName 2) (tAsg (tOp (rAddA K) (tVar 0) (tLc (iRng1 (tCons (tC (.int 4)) (tNil))) (gName 4) (tYes) (tCall (sp_frame_cell K) [] E0 (tCons (tVar 1) (tCons (tVar 2) (tCons (tVar 4) (tNil))))) [4])) (gName 0)))) (tSeq (tFor (iRng1 (tCons (tC (.int 2)) (tNil))) (gName 1) (tAsg (tOp (rAddA K) (tVar 0) (tLst (tCons (tCall (sp_doorbell K) [] E0 (tCons (tVar 1) (tNil))) (tCons (tCall (sp_reset K) [] E0 (tCons (tVar 1) (tNil))) (tCons (tCall (sp_ready K) [] E0 (tCons (tVar 1) (tNil))) (tCons (tCall (sp_interrupt K) [] E0 (tCons (tVar 1) (tNil))) (tNil))))))) (gName 0))) (tSeq (tFor (iRng1 (tCons (tC (.int 2)) (tNil))) (gName 1) (tAsg (tOp (rAddA K) (tVar 0) (tLc (iRng1 (tCons (tC (.int 6)) (tNil))) (gName 3) (tYes) (tCall (sp_table_word K) [] E0 (tCons (tVar 1) (tCons (tVar 3) (tNil)))) [3])) (gName 0))) (tRet (tOp (rAddA K) (tVar 0) (tLst (tCons (tCall (sp_acknowledge K) [] E0 (tCons (tC (.int 0)) (tNil))) (tCons (tCall (sp_acknowledge K) [] E0 (tCons (tC (.int 1)) (tNil))) (tNil)))))))))
theorem range_app (n m : Nat) (f : Nat → V) (h : ∀ j, f j = .int ((n + j : Nat) : Int)) : rangeL n ++ (List.range m).map f = rangeL (n + m) := by
  induction m with
  | zero => simp
  | succ m ih =>
    rw [List.range_succ, List.map_append, ← List.append_assoc, ih, show n + (m + 1) = (n + m) + 1 by omega, rangeL_succ]
    simp [h]
theorem pure_law_listed {K : PySem.W.Frag} {H : Hp} {Q : VK} {E : XK} (q : q_law_listed K H Q E) : t_law_listed K E { nx := fun _ H' => Q .non H', rt := Q } (start N_law_listed []) H := by
  unfold t_law_listed
  walk_at "go"
  intro c0 hc0
  walk_at "go"
  refine f_rng (fun d σ' H' => ∃ c x1 x2, σ' = [some (.ref c), x1, x2, none, none] ∧ Same H H' ∧ H' c = some (.lst (rangeL (24 * d)))) ?_ ?_ ?_
  · exact ⟨c0, none, none, rfl, same_new (Same.refl H) hc0, upd_same⟩
  · rintro d σ' H' hd ⟨c, x1, x2, rfl, s, hc⟩
    have hd' : d < 2 := by simpa using hd
    walk_at "go"
    refine f_rng (fun f σ' H' => ∃ c x2, σ' = [some (.ref c), some (.int (0 + (d : Int))), x2, none, none] ∧ Same H H' ∧ H' c = some (.lst (rangeL (24 * d + 4 * f)))) ?_ ?_ ?_
    · exact ⟨c, _, rfl, s, hc⟩
    · rintro f σ' H' hf ⟨c, x2, rfl, s, hc⟩
      have hf' : f < 6 := by simpa using hf
      walk_at "go"
      refine lc_rng (fun k acc H2 => Same H' H2 ∧ acc = ((List.range k).map fun j : Nat => V.int (((24 * d + 4 * f) + j : Nat) : Int))) ?_ ?_ ?_
      · intro D hD
        exact ⟨same_new (Same.refl H') hD, rfl⟩
      · rintro k D acc H2 hk hl hD hD' ⟨s2, rfl⟩
        walk_at "go"
        refine ⟨_, _, _, rfl, rfl, rfl, ?_⟩
        refine lc_put hD' hl (by simp at hk; omega) ⟨same_new s2 hD, ?_⟩
        rw [List.range_succ, List.map_append]
        simp
      · rintro D acc H2 hl hD hD' ⟨s2, rfl⟩
        walk_at "go"
        refine i_addL (s2 _ _ hc) hD' (by rw [sizeLine_eq, rangeL_len]; simp; omega) fun p hp => ?_
        refine ⟨p, _, rfl, same_nx (Same.trans s s2) hp, ?_⟩
        rw [upd_same, range_app _ _ _ (fun j => rfl)]
        rfl
    · rintro σ' H' ⟨c, x2, rfl, s, hc⟩
      exact ⟨c, _, _, rfl, s, hc⟩
  rintro σ' H' ⟨c, x1, x2, rfl, s, hc⟩
  walk_at "go"
  refine f_rng (fun d σ' H' => ∃ c x1 x2, σ' = [some (.ref c), x1, x2, none, none] ∧ Same H H' ∧ H' c = some (.lst (rangeL (48 + 4 * d)))) ?_ ?_ ?_
  · exact ⟨c, _, _, rfl, s, hc⟩
  · rintro d σ' H' hd ⟨c, x1, x2, rfl, s, hc⟩
    walk_at "go"
    refine ⟨_, rfl, ?_⟩
    walk_at "go"
    refine ⟨_, rfl, ?_⟩
    walk_at "go"
    refine ⟨_, rfl, ?_⟩
    walk_at "go"
    refine ⟨_, rfl, ?_⟩
    walk_at "go"
    intro p hp
    have hcp : c ≠ p := ne_fresh hp hc
    refine i_addL (upd_at hcp hc) upd_same (by rw [sizeLine_eq, rangeL_len]; have : d < 2 := (by simpa using hd); simp; omega) fun p2 hp2 => ?_
    refine ⟨p2, _, _, rfl, same_nx (same_nx s hp) hp2, ?_⟩
    rw [upd_same]
    have e : rangeL (48 + 4 * (d + 1)) = rangeL (48 + 4 * d) ++ (List.range 4).map fun j : Nat => V.int (((48 + 4 * d) + j : Nat) : Int) := by
      rw [show 48 + 4 * (d + 1) = (48 + 4 * d) + 4 by omega]
      exact (range_app _ _ _ (fun j => rfl)).symm
    rw [e]
    have e2 : (List.range 4).map (fun j : Nat => V.int (((48 + 4 * d) + j : Nat) : Int)) = [V.int (48 + 4 * (0 + (d : Int))), .int (48 + 4 * (0 + (d : Int)) + 1), .int (48 + 4 * (0 + (d : Int)) + 2), .int (48 + 4 * (0 + (d : Int)) + 3)] := by
      simp only [List.range, List.range.loop, List.map_cons, List.map_nil, List.cons.injEq, V.int.injEq, and_true]
      omega
    rw [e2]
  rintro σ' H' ⟨c, x1, x2, rfl, s, hc⟩
  walk_at "go"
  refine f_rng (fun d σ' H' => ∃ c x1 x2, σ' = [some (.ref c), x1, x2, none, none] ∧ Same H H' ∧ H' c = some (.lst (rangeL (56 + 6 * d)))) ?_ ?_ ?_
  · exact ⟨c, _, _, rfl, s, hc⟩
  · rintro d σ' H' hd ⟨c, x1, x2, rfl, s, hc⟩
    have hd' : d < 2 := by simpa using hd
    walk_at "go"
    refine lc_rng (fun k acc H2 => Same H' H2 ∧ acc = ((List.range k).map fun j : Nat => V.int (((56 + 6 * d) + j : Nat) : Int))) ?_ ?_ ?_
    · intro D hD
      exact ⟨same_new (Same.refl H') hD, rfl⟩
    · rintro k D acc H2 hk hl hD hD' ⟨s2, rfl⟩
      walk_at "go"
      refine ⟨_, _, rfl, rfl, ?_⟩
      refine lc_put hD' hl (by simp at hk; omega) ⟨same_new s2 hD, ?_⟩
      rw [List.range_succ, List.map_append]
      simp
    · rintro D acc H2 hl hD hD' ⟨s2, rfl⟩
      walk_at "go"
      refine i_addL (s2 _ _ hc) hD' (by rw [sizeLine_eq, rangeL_len]; simp; omega) fun p hp => ?_
      refine ⟨p, _, _, rfl, same_nx (Same.trans s s2) hp, ?_⟩
      rw [upd_same, range_app _ _ _ (fun j => rfl)]
      rfl
  rintro σ' H' ⟨c, x1, x2, rfl, s, hc⟩
  walk_at "go"
  refine ⟨_, rfl, ?_⟩
  walk_at "go"
  refine ⟨_, rfl, ?_⟩
  walk_at "go"
  intro p hp
  have hcp : c ≠ p := ne_fresh hp hc
  refine i_addL (upd_at hcp hc) upd_same (by rw [sizeLine_eq, rangeL_len]; decide) fun p2 hp2 => ?_
  exact q p2 _ (same_nx (same_nx s hp) hp2) (by rw [upd_same]; rfl)
def q_law_tape (K : PySem.W.Frag) (a0 : V) (H : Hp) (Q : VK) (E : XK) : Prop := ∃ (l : Addr) (ns : List Int), a0 = .ref l ∧ SqL K H l (ns.map V.int) ∧ ns.length ≤ 63 ∧ ∀ (a : Addr) (ms : List Int) (H' : Hp), Same H H' → H a = none → H' a = some (.lst (ms.map V.int)) → (∀ m ∈ ms, 0 ≤ m ∧ m < 1000) → ms.length ≤ 3780 → Q (.ref a) H'
def sp_law_tape (K : PySem.W.Frag) : Sp := fun vs H Q E => match vs with
  | [a0] => q_law_tape K a0 H Q E
  | _ => False
abbrev N_law_tape : List Str := ["_law_script", "_law_tape_here", "_law_k", "_law_value", "_law_step"]
def t_law_tape (K : PySem.W.Frag) (E : XK) : TS :=
  tSeq (tAsg (tLst (tNil)) (gName 1)) (tSeq (tFor (iRng1 (tCons (tCB (rLenA K) (tCons (tVar 0) (tNil))) (tNil))) (gName 2) (tSeq (tAsg (tCB (rAbsI) (tCons (tCB (rIntC) (tCons (tOp (rIx K) (tVar 0) (tVar 2)) (tNil))) (tNil))) (gName 3)) (tIfS (tTest (tOp (rGeI) (tVar 3) (tOp (rPowI) (tC (.int 10)) (tC (.int 18))))) (tFor (iRng1 (tCons (tC (.int 60)) (tNil))) (gName 4) (tIfS (tTest (tOp (rGtI) (tVar 3) (tC (.int 0)))) (tSeq (tDrop (tBM K "list" rAppend (tVar 1) (tCons (tOp (rModI) (tVar 3) (tC (.int 1000))) (tNil)))) (tAsg (tOp (rDivI) (tVar 3) (tC (.int 1000))) (gName 3))) (tNext))) (tFor (iRng1 (tCons (tC (.int 4)) (tNil))) (gName 4) (tSeq (tAsg (tOp (rModI) (tOp (rAddA K) (tOp (rAddA K) (tOp (rMulA K) (tVar 3) (tC (.int 48271))) (tOp (rMulA K) (tC (.int 69621)) (tOp (rAddA K) (tVar 2) (tC (.int 1))))) (tOp (rMulA K) (tC (.int 7)) (tVar 4))) (tC (.int 2147483647))) (gName 3)) (tSeq (tAsg (tOp (rModI) (tOp (rMulA K) (tVar 3) (tC (.int 16807))) (tC (.int 2147483647))) (gName 3)) (tDrop (tBM K "list" rAppend (tVar 1) (tCons (tOp (rModI) (tOp (rDivI) (tVar 3) (tC (.int 1000))) (tC (.int 1000))) (tNil)))))))))) (tRet (tVar 1)))
theorem pure_law_tape {K : PySem.W.Frag} {a0 : V} {H : Hp} {Q : VK} {E : XK} (h : q_law_tape K a0 H Q E) : t_law_tape K E { nx := fun _ H' => Q .non H', rt := Q } (start N_law_tape [a0]) H := by
  obtain ⟨l, ns, rfl, hl, hn, q⟩ := h
  unfold t_law_tape
  walk_at "go"
  intro a ha
  have s0 := fun o => same_new (o := o) (Same.refl H) ha
  -- a number more
  have more : ∀ (ms : List Int) (H' : Hp) (v : Int), Same H H' → (∀ m ∈ ms, 0 ≤ m ∧ m < 1000) → 0 ≤ v → v < 1000 → Same H (upd H' a (.lst (ms.map V.int ++ [.int v]))) ∧ ∃ ms' : List Int, (ms.map V.int ++ [V.int v]) = ms'.map V.int ∧ ms'.length = ms.length + 1 ∧ ∀ m ∈ ms', 0 ≤ m ∧ m < 1000 := by
    intro ms H' v s hm h0 h1
    refine ⟨same_new s ha, ms ++ [v], by simp, by simp, fun m hm' => ?_⟩
    rcases List.mem_append.mp hm' with hm' | hm'
    · exact hm m hm'
    · have : m = v := by simpa using hm'
      subst this
      exact ⟨h0, h1⟩
  have hlk := fun o => sqL_same (s0 o) hl
  have I0 := hlk (.lst [])
  walk_at "go"
  rw [List.length_map]
  walk_at "go"
  refine f_rng (fun k σ' H' => ∃ (ms : List Int) (x2 x3 x4 : Option V), σ' = [some (.ref l), some (.ref a), x2, x3, x4] ∧ Same H H' ∧ H' a = some (.lst (ms.map V.int)) ∧ (∀ m ∈ ms, 0 ≤ m ∧ m < 1000) ∧ ms.length ≤ 60 * k) ?_ ?_ ?_
  · exact ⟨[], none, none, none, rfl, s0 _, upd_same, (by simp), by simp⟩
  · rintro k σ' H' hk ⟨ms, x2, x3, x4, rfl, s, hx, hm, hz⟩
    have hk' : k < ns.length := by simpa using hk
    have hl' := sqL_same s hl
    walk_at "go"
    refine i_ixLn (v := .int (ns[k])) hl' (by omega) (by rw [show (0 + (k : Int)).toNat = k by omega]; simp [hk']) ?_
    walk_at "go"
    have hv0 : 0 ≤ (if ns[k] < 0 then -ns[k] else ns[k]) := by split <;> omega
    revert hv0
    generalize (if ns[k] < 0 then -ns[k] else ns[k]) = v
    intro hv0
    refine i_ite2 (fun c => ?_) (fun c => ?_)
    · clear c
      walk_at "go"
      refine f_rng (fun j σ' H' => ∃ (ms : List Int) (x4 : Option V) (v : Int), σ' = [some (.ref l), some (.ref a), some (.int (0 + (k : Int))), some (.int v), x4] ∧ 0 ≤ v ∧ Same H H' ∧ H' a = some (.lst (ms.map V.int)) ∧ (∀ m ∈ ms, 0 ≤ m ∧ m < 1000) ∧ ms.length ≤ 60 * k + j) ?_ ?_ ?_
      · exact ⟨ms, x4, v, rfl, hv0, s, hx, hm, by omega⟩
      · rintro j σ' H' hj ⟨ms, x4, v, rfl, hv0, s, hx, hm, hz⟩
        have hj' : j < 60 := by simpa using hj
        walk_at "go"
        refine i_ite2 (fun c => ?_) (fun c => ?_)
        · walk_at "go"
          refine i_app hx (by rw [sizeLine_eq, List.length_map]; omega) ?_
          obtain ⟨s', ms', e, el, hm'⟩ := more ms H' (v % 1000) s hm (Int.emod_nonneg _ (by decide)) (Int.emod_lt_of_pos _ (by decide))
          walk_at "go"
          refine ⟨ms', _, v / 1000, rfl, Int.ediv_nonneg hv0 (by decide), s', by rw [upd_same, e], hm', by omega⟩
        · refine i_next ⟨ms, _, v, rfl, hv0, s, hx, hm, by omega⟩
      · rintro σ' H' ⟨ms, x4, v, rfl, hv0, s, hx, hm, hz⟩
        have hz' : ms.length ≤ 60 * k + 60 := by simpa using hz
        exact ⟨ms, _, _, _, rfl, s, hx, hm, by omega⟩
    · clear c
      walk_at "go"
      refine f_rng (fun j σ' H' => ∃ (ms : List Int) (x4 : Option V) (v : Int), σ' = [some (.ref l), some (.ref a), some (.int (0 + (k : Int))), some (.int v), x4] ∧ 0 ≤ v ∧ Same H H' ∧ H' a = some (.lst (ms.map V.int)) ∧ (∀ m ∈ ms, 0 ≤ m ∧ m < 1000) ∧ ms.length ≤ 60 * k + j) ?_ ?_ ?_
      · exact ⟨ms, x4, v, rfl, hv0, s, hx, hm, by omega⟩
      · rintro j σ' H' hj ⟨ms, x4, v, rfl, hv0, s, hx, hm, hz⟩
        have hj' : j < 4 := by simpa using hj
        walk_at "go"
        refine i_app hx (by rw [sizeLine_eq, List.length_map]; omega) ?_
        generalize hv : (v * 48271 + 69621 * (0 + (k : Int) + 1) + 7 * (0 + (j : Int))) % 2147483647 * 16807 % 2147483647 = u
        obtain ⟨s', ms', e, el, hm'⟩ := more ms H' (u / 1000 % 1000) s hm (Int.emod_nonneg _ (by decide)) (Int.emod_lt_of_pos _ (by decide))
        refine ⟨ms', _, u, rfl, by rw [← hv]; exact Int.emod_nonneg _ (by decide), s', by rw [upd_same, e], hm', by omega⟩
      · rintro σ' H' ⟨ms, x4, v, rfl, hv0, s, hx, hm, hz⟩
        have hz' : ms.length ≤ 60 * k + 4 := by simpa using hz
        exact ⟨ms, _, _, _, rfl, s, hx, hm, by omega⟩
  · rintro σ' H' ⟨ms, x2, x3, x4, rfl, s, hx, hm, hz⟩
    walk_at "go"
    have hz' : ms.length ≤ 60 * ns.length := by simpa using hz
    exact q a ms H' s ha hx hm (by omega)
def q_first_values (K : PySem.W.Frag) (H : Hp) (Q : VK) (E : XK) : Prop := ∀ (l : Addr) (H' : Hp), H l = none → Same H H' → H' l = some (.lst (valsAt 2)) → Q (.ref l) H'
def sp_first_values (K : PySem.W.Frag) : Sp := fun vs H Q E => match vs with
  | [] => q_first_values K  H Q E
  | _ => False
abbrev N_first_values : List Str := ["values", "device", "cell", "page"]
def t_first_values (K : PySem.W.Frag) (E : XK) : TS :=
  tSeq (tAsg (tOp (rMulA K) (tLst (tCons (tC (.int 0)) (tNil))) (tC (.int 70))) (gName 0)) (tSeq (tFor (iRng1 (tCons (tC (.int 2)) (tNil))) (gName 1) (tSeq (tFor (iRng2 (tCons (tCall (sp_frame_cell K) [] E0 (tCons (tVar 1) (tCons (tC (.int 0)) (tCons (tC (.int 0)) (tNil))))) (tCons (tCall (sp_frame_cell K) [] E0 (tCons (tVar 1) (tCons (tC (.int 2)) (tCons (tC (.int 0)) (tNil))))) (tNil)))) (gName 2) (tAsg (tC .non) (gSub (tVar 0) (tVar 2) rSetL))) (tFor (iRng1 (tCons (tC (.int 6)) (tNil))) (gName 3) (tAsg (tC .non) (gSub (tVar 0) (tCall (sp_table_word K) [] E0 (tCons (tVar 1) (tCons (tVar 3) (tNil)))) rSetL))))) (tRet (tVar 0)))
theorem pure_first_values {K : PySem.W.Frag} {H : Hp} {Q : VK} {E : XK} (q : q_first_values K H Q E) : t_first_values K E { nx := fun _ H' => Q .non H', rt := Q } (start N_first_values []) H := by
  unfold t_first_values
  walk_at "go"
  intro p hp
  walk_at "go"
  refine i_repL upd_same (by decide) (by decide) (by decide) fun l hl => ?_
  have s1 := same_nx (same_new (o := .lst [.int 0]) (Same.refl H) hp) (o := .lst (List.replicate (70 : Int).toNat [V.int 0]).flatten) hl
  have hl0 : H l = none := same_free (same_new (Same.refl H) hp) hl
  have el : (List.replicate (70 : Int).toNat [V.int 0]).flatten = valsAt 0 := by decide +kernel
  rw [el] at s1 ⊢
  have hx : (upd (upd H p (.lst [.int 0])) l (.lst (valsAt 0))) l = some (.lst (valsAt 0)) := upd_same
  revert s1 hx
  generalize upd (upd H p (.lst [.int 0])) l (.lst (valsAt 0)) = H1
  intro s1 hx
  walk_at "go"
  refine f_rng (fun d σ' H' => ∃ x1 x2 x3, σ' = [some (.ref l), x1, x2, x3] ∧ Same H H' ∧ H' l = some (.lst (valsAt d))) ?_ ?_ ?_
  · exact ⟨none, none, none, rfl, s1, hx⟩
  · rintro d σ' H' hd ⟨x1, x2, x3, rfl, s, hx⟩
    have hd' : d < 2 := by simpa using hd
    walk_at "go"
    refine ⟨_, 0, 0, rfl, rfl, rfl, ?_⟩
    walk_at "go"
    refine ⟨_, 2, 0, rfl, rfl, rfl, ?_⟩
    walk_at "go"
    rw [show (24 * (0 + (d : Int)) + 4 * 2 + 0 - (24 * (0 + (d : Int)) + 4 * 0 + 0)).toNat = 8 by omega]
    refine f_rng (fun j σ' H' => ∃ x2 x3, σ' = [some (.ref l), some (.int (0 + (d : Int))), x2, x3] ∧ Same H H' ∧ H' l = some (.lst (valsIn d j (valsAt d)))) ?_ ?_ ?_
    · exact ⟨_, _, rfl, s, hx⟩
    · rintro j σ' H' hj ⟨x2, x3, rfl, s, hx⟩
      walk_at "go"
      refine i_setL hx (ixNat (by omega) (by rw [valsIn_len, valsAt_len]; omega)) ?_
      refine ⟨_, _, rfl, same_new s hl0, ?_⟩
      rw [upd_same, valsIn_succ]
      congr 3
      omega
    · rintro σ' H' ⟨x2, x3, rfl, s, hx⟩
      walk_at "go"
      refine f_rng (fun j σ' H' => ∃ x2 x3, σ' = [some (.ref l), some (.int (0 + (d : Int))), x2, x3] ∧ Same H H' ∧ H' l = some (.lst (valsWd d j (valsIn d 8 (valsAt d))))) ?_ ?_ ?_
      · exact ⟨_, _, rfl, s, hx⟩
      · rintro j σ' H' hj ⟨x2, x3, rfl, s, hx⟩
        have hj' : j < 6 := by simpa using hj
        walk_at "go"
        refine ⟨_, _, rfl, rfl, ?_⟩
        refine i_setL hx (ixNat (by omega) (by rw [valsWd_len, valsIn_len, valsAt_len]; omega)) ?_
        refine ⟨_, _, rfl, same_new s hl0, ?_⟩
        rw [upd_same, valsWd_succ]
        congr 3
        omega
      · rintro σ' H' ⟨x2, x3, rfl, s, hx⟩
        exact ⟨_, _, _, rfl, s, hx⟩
  · rintro σ' H' ⟨x1, x2, x3, rfl, s, hx⟩
    walk_at "go"
    exact q l H' hl0 s hx
def q_Guard_init (K : PySem.W.Frag) (a0 : V) (H : Hp) (Q : VK) (E : XK) : Prop := ∃ x dx : Addr, a0 = .ref x ∧ H x = some (.ins (He.ga K "Guard") dx []) ∧ ∀ (k w : Addr) (H' : Hp), Stays [x] H H' → H k = none → H w = none → GAt K H' ⟨x, dx, k, w⟩ gs0 → k ≠ w → Q .non H'
def sp_Guard_init (K : PySem.W.Frag) : Sp := fun vs H Q E => match vs with
  | [a0] => q_Guard_init K a0 H Q E
  | _ => False
abbrev N_Guard_init : List Str := ["self"]
def t_Guard_init (K : PySem.W.Frag) (E : XK) : TS :=
  tSeq (sFld K (tVar 0) (tDNewK) "kept") (tSeq (sFld K (tVar 0) (tLst (tNil)) "waiting") (sFld K (tVar 0) (tC (.int 0)) "tickets"))
theorem pure_Guard_init {K : PySem.W.Frag} (Z : Zx K) {a0 : V} {H : Hp} {Q : VK} {E : XK} (h : q_Guard_init K a0 H Q E) : t_Guard_init K E { nx := fun _ H' => Q .non H', rt := Q } (start N_Guard_init [a0]) H := by
  obtain ⟨x, dx, rfl, hx, q⟩ := h
  unfold t_Guard_init
  walk_at "go"
  intro k hk
  have nxk : x ≠ k := ne_fresh hk hx
  walk_at "go"
  refine i_sfldIn (upd_at nxk hx) Z.M.g Z.M.kept (Nat.le_of_ble_eq_true rfl) ?_
  walk_at "go"
  intro w hw
  have nxw : x ≠ w := ne_fresh hw upd_same
  have nkw : k ≠ w := ne_fresh hw (upd_at nxk.symm upd_same)
  walk_at "go"
  refine i_sfldIn (upd_at nxw upd_same) Z.M.g Z.M.waiting (Nat.le_of_ble_eq_true rfl) ?_
  walk_at "go"
  refine i_sfldIn upd_same Z.M.g Z.M.tickets (Nat.le_of_ble_eq_true rfl) ?_
  refine q k w _ ?_ hk ?_ ⟨upd_same, upd_at nxk.symm (upd_at nxk.symm (upd_at nkw (upd_at nxk.symm upd_same))), upd_at nxw.symm (upd_at nxw.symm upd_same)⟩ nkw
  · exact ((((((Stays.refl H).new hk).put (by simp)).trans (Stays.same (same_new (Same.refl _) hw))).put (by simp)).put (by simp))
  · have h1 : (upd H k (.dK [])) w = none := by
      cases e : (upd H k (.dK [])) w with
      | none => rfl
      | some o => rw [upd_ne nxw.symm, e] at hw; cases hw
    cases e : H w with
    | none => rfl
    | some o => rw [upd_ne nkw.symm, e] at h1; cases h1
def q_Memory_init (K : PySem.W.Frag) (a0 : V) (H : Hp) (Q : VK) (E : XK) : Prop := ∃ x dx : Addr, a0 = .ref x ∧ H x = some (.ins (He.ga K "Memory") dx []) ∧ ∀ (A : MAd) (b0 b1 j0 j1 : V) (H' : Hp), A.m = x → Stays [x] H H' → (∀ b ∈ A.all, b ≠ x → H b = none) → MAt K H' A (ms0 b0 b1 j0 j1) → Dp K H' b0 zero4 → Dp K H' b1 zero4 → Dp K H' j0 (.tuple []) → Dp K H' j1 (.tuple []) → Q .non H'
def sp_Memory_init (K : PySem.W.Frag) : Sp := fun vs H Q E => match vs with
  | [a0] => q_Memory_init K a0 H Q E
  | _ => False
abbrev N_Memory_init : List Str := ["self", "_"]
def t_Memory_init (K : PySem.W.Frag) (E : XK) : TS :=
  tSeq (sFld K (tVar 0) (tC (.int 0)) "count") (tSeq (sFld K (tVar 0) (tCall (sp_first_values K) [] E0 tNil) "held") (tSeq (sFld K (tVar 0) (tLc (iRng1 (tCons (tC (.int 2)) (tNil))) (gName 1) (tYes) (tMake (He.ga K "Guard") (sp_Guard_init K) [] E0 tNil) [1]) "guards") (tSeq (sFld K (tVar 0) (tLc (iRng1 (tCons (tC (.int 2)) (tNil))) (gName 1) (tYes) (tOp (rMulA K) (tLst (tCons (tTup (tCons (tC (.int 0)) (tCons (tC (.int 0)) (tCons (tC (.int 0)) (tCons (tC (.int 0)) (tNil)))))) (tNil))) (tC (.int 8))) [1]) "stored") (tSeq (sFld K (tVar 0) (tLc (iRng1 (tCons (tC (.int 2)) (tNil))) (gName 1) (tYes) (tTup (tNil)) [1]) "journals") (sFld K (tVar 0) (tLst (tNil)) "rows")))))
theorem pure_Memory_init {K : PySem.W.Frag} (Z : Zx K) {a0 : V} {H : Hp} {Q : VK} {E : XK} (h : q_Memory_init K a0 H Q E) : t_Memory_init K E { nx := fun _ H' => Q .non H', rt := Q } (start N_Memory_init [a0]) H := by
  obtain ⟨x, dx, rfl, hx, q⟩ := h
  unfold t_Memory_init
  walk_at "go"
  refine i_sfldIn hx Z.M.c Z.M.count (Nat.le_of_ble_eq_true rfl) ?_
  have st1 := ((Stays.refl H).put (fp := [x]) (p := x) (o := .ins (He.ga K "Memory") dx (putF "count" (.int 0) [])) (by simp))
  have al1 : AL [x] (upd H x (.ins (He.ga K "Memory") dx (putF "count" (.int 0) []))) := ⟨by simp, fun a m => by
    have : a = x := by simpa using m
    exact ⟨_, by rw [this]; exact upd_same⟩⟩
  have hx1 : (upd H x (.ins (He.ga K "Memory") dx (putF "count" (.int 0) []))) x = some (.ins (He.ga K "Memory") dx (putF "count" (.int 0) [])) := upd_same
  revert st1 al1 hx1
  generalize upd H x (.ins (He.ga K "Memory") dx (putF "count" (.int 0) [])) = H1
  intro st1 al1 hx1
  walk_at "go"
  intro ph H2 hph s2 hv
  have nxp : ph ≠ x := (ne_fresh hph hx1).symm
  have hx2 := s2 _ _ hx1
  have al2 : AL ([x] ++ [ph]) H2 := al1.joinSame s2 (by simp) (fun a m => by simp at m; rw [m]; exact hph) fun a m => by simp at m; exact ⟨_, by rw [m]; exact hv⟩
  have fr2 : ∀ b ∈ [ph], H b = none := fun b m => by
    simp at m
    subst m
    exact st1.free (by simpa using nxp) hph
  walk_at "go"
  refine i_sfldIn hx2 Z.M.c Z.M.held (Nat.le_of_ble_eq_true rfl) ?_
  have st3 := ((st1.trans (Stays.same s2)).put (p := x) (o := .ins (He.ga K "Memory") dx (putF "held" (.ref ph) (putF "count" (.int 0) []))) (by simp))
  have al3 := al2.upd (p := x) (o := .ins (He.ga K "Memory") dx (putF "held" (.ref ph) (putF "count" (.int 0) [])))
  have hx3 : (upd H2 x (.ins (He.ga K "Memory") dx (putF "held" (.ref ph) (putF "count" (.int 0) [])))) x = some (.ins (He.ga K "Memory") dx (putF "held" (.ref ph) (putF "count" (.int 0) []))) := upd_same
  have hv3 := upd_at (o := .ins (He.ga K "Memory") dx (putF "held" (.ref ph) (putF "count" (.int 0) []))) nxp hv
  revert st3 al3 hx3 hv3
  generalize upd H2 x (.ins (He.ga K "Memory") dx (putF "held" (.ref ph) (putF "count" (.int 0) []))) = H3
  intro st3 al3 hx3 hv3
  clear s2 hv hph al2 hx2 al1 st1 hx1
  walk_at "go"
  -- the guards
  refine lc_rng (fun k acc H' => ∃ gl : List GAd, acc = gl.map (fun a => V.ref a.g) ∧ gl.length = k ∧ Same H3 H' ∧ (∀ a ∈ gl, GAt K H' a gs0) ∧ AL (gl.flatMap GAd.all) H' ∧ ∀ b ∈ gl.flatMap GAd.all, H3 b = none) ?_ ?_ ?_
  · intro D hD
    exact ⟨[], rfl, rfl, same_new (Same.refl H3) hD, (by simp), AL.nil, by simp⟩
  · rintro k D acc H' hk hl hD hD' ⟨gl, rfl, hgl, s, hg, al, fr⟩
    walk_at "go"
    intro x' dx' hx' hdx' ndx
    have sA : Same H' (upd (upd H' dx' (.own x')) x' (.ins (He.ga K "Guard") dx' [])) := same_new (same_new (Same.refl H') hdx') hx'
    refine ⟨x', dx', rfl, upd_same, fun k' w' H4 st4 hk' hw' hg4 nkw => ?_⟩
    refine ⟨rfl, ?_⟩
    have nx' : ∀ b o, H' b = some o → b ≠ x' := fun b o e => ne_fresh hx' e
    have keep : Same H' H4 := fun b o e => st4 b o (sA b o e) (by simpa using nx' b o e)
    have hk0 : H' k' = none := same_free sA hk'
    have hw0 : H' w' = none := same_free sA hw'
    have nk : x' ≠ k' := ne_fresh hk' upd_same
    have nw : x' ≠ w' := ne_fresh hw' upd_same
    have hD4 := keep _ _ hD'
    have nDs : ∀ b, H' b = none → b ≠ D := fun b e => (ne_fresh e hD').symm
    have s5 : Same H3 (upd H4 D (.lst (gl.map (fun a => V.ref a.g) ++ [.ref x']))) := same_new (Same.trans s keep) hD
    have nD : ∀ b ∈ gl.flatMap GAd.all, b ≠ D := fun b m e => by
      obtain ⟨a, ma, mb⟩ := List.mem_flatMap.mp m
      subst e
      have g := hg a ma
      simp only [GAd.all, List.mem_cons, List.not_mem_nil, or_false] at mb
      rcases mb with rfl | rfl | rfl
      · have := g.g; rw [hD'] at this; cases this
      · have := g.k; rw [hD'] at this; cases this
      · obtain ⟨i, hi, ei⟩ := List.getElem_of_mem ma
        have := fr a.w m
        exact absurd (al.there _ m) (fun _ => by
          have w1 := g.w
          rw [hD'] at w1
          injection w1 with w1
          injection w1 with w1
          cases gl with
          | nil => cases ma
          | cons b r => cases w1)
    refine lc_put hD4 hl (by simp at hk; omega) ⟨gl ++ [⟨x', dx', k', w'⟩], by simp, by simp [hgl], s5, fun a m => ?_, ?_, fun b m => ?_⟩
    · rcases List.mem_append.mp m with m | m
      · have g := (hg a m).same keep
        have ia : ∀ b ∈ a.all, b ≠ D := fun b mb => nD b (List.mem_flatMap.mpr ⟨a, m, mb⟩)
        exact ⟨upd_at (ia _ (by simp [GAd.all])) g.g, upd_at (ia _ (by simp [GAd.all])) g.k, upd_at (ia _ (by simp [GAd.all])) g.w⟩
      · have : a = ⟨x', dx', k', w'⟩ := by simpa using m
        subst this
        exact ⟨upd_at (nDs _ hx') hg4.g, upd_at (nDs _ hk0) hg4.k, upd_at (nDs _ hw0) hg4.w⟩
    · rw [List.flatMap_append]
      refine AL.upd (al.joinSame keep ?_ (fun b m => ?_) fun b m => ?_)
      · simp only [List.flatMap_cons, List.flatMap_nil, List.append_nil, GAd.all, List.nodup_cons, List.mem_cons, List.not_mem_nil, or_false, not_or, not_false_iff, true_and, List.nodup_nil, and_true]
        exact ⟨⟨nk, nw⟩, nkw⟩
      · simp only [List.flatMap_cons, List.flatMap_nil, List.append_nil, GAd.all, List.mem_cons, List.not_mem_nil, or_false] at m
        rcases m with rfl | rfl | rfl
        · exact hx'
        · exact hk0
        · exact hw0
      · simp only [List.flatMap_cons, List.flatMap_nil, List.append_nil, GAd.all, List.mem_cons, List.not_mem_nil, or_false] at m
        rcases m with rfl | rfl | rfl
        · exact ⟨_, hg4.g⟩
        · exact ⟨_, hg4.k⟩
        · exact ⟨_, hg4.w⟩
    · rw [List.flatMap_append] at m
      rcases List.mem_append.mp m with m | m
      · exact fr b m
      · simp only [List.flatMap_cons, List.flatMap_nil, List.append_nil, GAd.all, List.mem_cons, List.not_mem_nil, or_false] at m
        rcases m with rfl | rfl | rfl
        · exact same_free s hx'
        · exact same_free s hk0
        · exact same_free s hw0
  rintro pg acc H4 hl hpg hpg4 ⟨gl, rfl, hgl, s4, hg, alg, frg⟩
  obtain ⟨ga0, ga1, rfl⟩ : ∃ a b, gl = [a, b] := by
    match gl, hgl with
    | [a, b], _ => exact ⟨a, b, rfl⟩
  have hx4 := s4 _ _ hx3
  have hv4 := s4 _ _ hv3
  have fg : ∀ b ∈ ga0.all ++ ga1.all, H3 b = none := fun b m => frg b (by simpa using m)
  have npg : pg ≠ x := (ne_fresh hpg hx3).symm
  have nDg : ∀ b ∈ ga0.all ++ ga1.all, b ≠ pg := fun b m e => by
    subst e
    have g0 := hg ga0 (by simp)
    have g1 := hg ga1 (by simp)
    simp only [GAd.all, List.cons_append, List.nil_append, List.mem_cons, List.not_mem_nil, or_false] at m
    rcases m with rfl | rfl | rfl | rfl | rfl | rfl
    · have := g0.g; rw [hpg4] at this; cases this
    · have := g0.k; rw [hpg4] at this; cases this
    · have := g0.w; rw [hpg4] at this; cases this
    · have := g1.g; rw [hpg4] at this; cases this
    · have := g1.k; rw [hpg4] at this; cases this
    · have := g1.w; rw [hpg4] at this; cases this
  have alg' : AL (ga0.all ++ ga1.all) H4 := by
    have : [ga0, ga1].flatMap GAd.all = ga0.all ++ ga1.all := by simp
    rw [← this]
    exact alg
  have al4 : AL ([x] ++ [ph] ++ (pg :: (ga0.all ++ ga1.all))) H4 := al3.joinSame s4 (List.nodup_cons.mpr ⟨fun m => nDg _ m rfl, alg'.nd⟩) (fun a m => (List.mem_cons.mp m).elim (fun e => e ▸ hpg) (fg a)) fun a m => (List.mem_cons.mp m).elim (fun e => ⟨_, e ▸ hpg4⟩) (alg'.there a)
  have fr4 : ∀ b ∈ [ph] ++ (pg :: (ga0.all ++ ga1.all)), H b = none := fun b m => by
    rcases List.mem_append.mp m with m | m
    · exact fr2 b m
    · have h3 : H3 b = none := (List.mem_cons.mp m).elim (fun e => e ▸ hpg) (fg b)
      refine st3.free ?_ h3
      have : b ≠ x := (ne_fresh h3 hx3).symm
      simpa using this
  have hg0 := hg ga0 (by simp)
  have hg1 := hg ga1 (by simp)
  have nx4 : ∀ b ∈ ga0.all ++ ga1.all, b ≠ x := fun b m => (ne_fresh (fg b m) hx3).symm
  walk_at "go"
  refine i_sfldIn hx4 Z.M.c Z.M.guards (Nat.le_of_ble_eq_true rfl) ?_
  have st5 := ((st3.trans (Stays.same s4)).put (p := x) (o := .ins (He.ga K "Memory") dx (putF "guards" (.ref pg) (putF "held" (.ref ph) (putF "count" (.int 0) [])))) (by simp))
  have al5 := al4.upd (p := x) (o := .ins (He.ga K "Memory") dx (putF "guards" (.ref pg) (putF "held" (.ref ph) (putF "count" (.int 0) []))))
  have hx5 : (upd H4 x (.ins (He.ga K "Memory") dx (putF "guards" (.ref pg) (putF "held" (.ref ph) (putF "count" (.int 0) []))))) x = some (.ins (He.ga K "Memory") dx (putF "guards" (.ref pg) (putF "held" (.ref ph) (putF "count" (.int 0) [])))) := upd_same
  have hv5 := upd_at (o := .ins (He.ga K "Memory") dx (putF "guards" (.ref pg) (putF "held" (.ref ph) (putF "count" (.int 0) [])))) nxp hv4
  have hpg5 := upd_at (o := .ins (He.ga K "Memory") dx (putF "guards" (.ref pg) (putF "held" (.ref ph) (putF "count" (.int 0) [])))) npg hpg4
  have hg05 : GAt K (upd H4 x (.ins (He.ga K "Memory") dx (putF "guards" (.ref pg) (putF "held" (.ref ph) (putF "count" (.int 0) []))))) ga0 gs0 := ⟨upd_at (nx4 _ (by simp [GAd.all])) hg0.g, upd_at (nx4 _ (by simp [GAd.all])) hg0.k, upd_at (nx4 _ (by simp [GAd.all])) hg0.w⟩
  have hg15 : GAt K (upd H4 x (.ins (He.ga K "Memory") dx (putF "guards" (.ref pg) (putF "held" (.ref ph) (putF "count" (.int 0) []))))) ga1 gs0 := ⟨upd_at (nx4 _ (by simp [GAd.all])) hg1.g, upd_at (nx4 _ (by simp [GAd.all])) hg1.k, upd_at (nx4 _ (by simp [GAd.all])) hg1.w⟩
  revert st5 al5 hx5 hv5 hpg5 hg05 hg15
  show Stays [x] H (upd H4 x (.ins (He.ga K "Memory") dx (putF "guards" (.ref pg) (putF "held" (.ref ph) (putF "count" (.int 0) []))))) → _
  generalize upd H4 x (.ins (He.ga K "Memory") dx (putF "guards" (.ref pg) (putF "held" (.ref ph) (putF "count" (.int 0) [])))) = H5
  intro st5 al5 hx5 hv5 hpg5 hg05 hg15
  clear s4 hg alg frg hx4 hv4 fg nDg alg' al4 hg0 hg1 nx4 hpg hpg4 al3 st3 hx3 hv3 hl hgl npg
  walk_at "go"
  -- the blocks
  refine lc_rng (fun k acc H' => ∃ sl : List (Addr × V), acc = sl.map (fun a => V.ref a.1) ∧ sl.length = k ∧ Same H5 H' ∧ (∀ a ∈ sl, H' a.1 = some (.lst (List.replicate 8 a.2)) ∧ Dp K H' a.2 zero4) ∧ AL (sl.map (·.1)) H' ∧ ∀ b ∈ sl.map (·.1), H5 b = none) ?_ ?_ ?_
  · intro D hD
    exact ⟨[], rfl, rfl, same_new (Same.refl H5) hD, (by simp), AL.nil, by simp⟩
  · rintro k D acc H' hk hl hD hD' ⟨sl, rfl, hsl, s, hg, al, fr⟩
    have hk2 : k < 2 := by simpa using hk
    walk_at "go"
    intro p1 hp1
    walk_at "go"
    intro p2 hp2
    walk_at "go"
    refine i_repL upd_same (by decide) (by decide) (Nat.le_of_ble_eq_true rfl) fun r hr => ?_
    have er : (List.replicate (8 : Int).toNat [V.ref p1]).flatten = List.replicate 8 (.ref p1) := rfl
    rw [er] at *
    have n12 : p1 ≠ p2 := ne_fresh hp2 upd_same
    have n1r : p1 ≠ r := ne_fresh hr (upd_at n12 upd_same)
    have sA := fun o => same_nx (o := o) (same_nx (o := .lst [.ref p1]) (same_new (o := .tup [.int 0, .int 0, .int 0, .int 0]) (Same.refl H') hp1) hp2) hr
    have hr0 : H' r = none := same_free (same_nx (same_new (Same.refl H') hp1) hp2) hr
    have gp : SqT K (upd (upd (upd H' p1 (.tup [.int 0, .int 0, .int 0, .int 0])) p2 (.lst [.ref p1])) r (.lst (List.replicate 8 (.ref p1)))) p1 [.int 0, .int 0, .int 0, .int 0] := sqT (upd_at n1r (upd_at n12 upd_same))
    have gr : (upd (upd (upd H' p1 (.tup [.int 0, .int 0, .int 0, .int 0])) p2 (.lst [.ref p1])) r (.lst (List.replicate 8 (.ref p1)))) r = some (.lst (List.replicate 8 (.ref p1))) := upd_same
    have sA := sA (.lst (List.replicate 8 (.ref p1)))
    revert sA gp gr
    generalize upd (upd (upd H' p1 (.tup [.int 0, .int 0, .int 0, .int 0])) p2 (.lst [.ref p1])) r (.lst (List.replicate 8 (.ref p1))) = H6
    intro gp gr sA
    have hD6 := sA _ _ hD'
    have nrD : r ≠ D := (ne_fresh hr0 hD').symm
    have nsD : ∀ a ∈ sl, a.1 ≠ D := fun a m e => by
      have := (hg a m).1
      rw [e, hD'] at this
      injection this with this
      injection this with this
      have l2 := congrArg List.length this
      rw [List.length_map, List.length_replicate, hsl] at l2
      omega
    have kk : Keep H6 (upd H6 D (.lst (sl.map (fun a => V.ref a.1) ++ [.ref r]))) := (Keep.refl H6).upd fun u e => by
      rw [hD6] at e
      cases e
      rfl
    refine lc_put hD6 hl (by omega) ⟨sl ++ [(r, .ref p1)], by simp, by simp [hsl], same_new (Same.trans s sA) hD, fun a m => ?_, ?_, fun b m => ?_⟩
    · rcases List.mem_append.mp m with m | m
      · exact ⟨upd_at (nsD a m) (sA _ _ (hg a m).1), Dp.keep ((Keep.same sA).trans kk) _ _ (hg a m).2 rfl⟩
      · have : a = (r, .ref p1) := by simpa using m
        subst this
        exact ⟨upd_at nrD gr, .tup (kk.sq gp) (DpAll.ints [0, 0, 0, 0])⟩
    · rw [List.map_append]
      exact AL.upd (al.joinSame sA (by simp) (fun b m => by simp at m; rw [m]; exact hr0) fun b m => by simp at m; exact ⟨_, by rw [m]; exact gr⟩)
    · rw [List.map_append] at m
      rcases List.mem_append.mp m with m | m
      · exact fr b m
      · have : b = r := by simpa using m
        subst this
        exact same_free s hr0
  rintro ps acc H6 hl hps hps6 ⟨sl, rfl, hsl, s6, hs, als, frs⟩
  obtain ⟨⟨a0, b0⟩, ⟨a1, b1⟩, rfl⟩ : ∃ a b, sl = [a, b] := by
    match sl, hsl with
    | [a, b], _ => exact ⟨a, b, rfl⟩
  have h0 := hs (a0, b0) (by simp)
  have h1 := hs (a1, b1) (by simp)
  have f0 : H5 a0 = none := frs a0 (by simp)
  have f1 : H5 a1 = none := frs a1 (by simp)
  have n0 : a0 ≠ ps := fun e => by
    have := h0.1
    rw [e, hps6] at this
    injection this with this
    injection this with this
    have l2 := congrArg List.length this
    rw [List.length_replicate] at l2
    cases l2
  have n1 : a1 ≠ ps := fun e => by
    have := h1.1
    rw [e, hps6] at this
    injection this with this
    injection this with this
    have l2 := congrArg List.length this
    rw [List.length_replicate] at l2
    cases l2
  have n01 : a0 ≠ a1 := by
    have := als.nd
    simp only [List.map_cons, List.map_nil, List.nodup_cons, List.mem_cons, List.not_mem_nil, or_false] at this
    exact this.1
  have al6 : AL ([x] ++ [ph] ++ (pg :: (ga0.all ++ ga1.all)) ++ [ps, a0, a1]) H6 := al5.joinSame s6 (by simp; exact ⟨⟨n0.symm, n1.symm⟩, n01⟩) (fun a m => by simp at m; rcases m with rfl | rfl | rfl <;> assumption) fun a m => by
    simp at m
    rcases m with rfl | rfl | rfl
    · exact ⟨_, hps6⟩
    · exact ⟨_, h0.1⟩
    · exact ⟨_, h1.1⟩
  have fr6 : ∀ b ∈ [ps, a0, a1], H b = none := fun b m => by
    have h5 : H5 b = none := by
      simp at m
      rcases m with rfl | rfl | rfl <;> assumption
    refine st5.free ?_ h5
    have : b ≠ x := (ne_fresh h5 hx5).symm
    simpa using this
  have nx6 : ∀ b, H5 b = none → b ≠ x := fun b e => (ne_fresh e hx5).symm
  walk_at "go"
  refine i_sfldIn (s6 _ _ hx5) Z.M.c Z.M.stored (Nat.le_of_ble_eq_true rfl) ?_
  have st7 := ((st5.trans (Stays.same s6)).put (p := x) (o := (.ins (He.ga K "Memory") dx (putF "stored" (.ref ps) (putF "guards" (.ref pg) (putF "held" (.ref ph) (putF "count" (.int 0) [])))))) (by simp))
  have al7 := al6.upd (p := x) (o := (.ins (He.ga K "Memory") dx (putF "stored" (.ref ps) (putF "guards" (.ref pg) (putF "held" (.ref ph) (putF "count" (.int 0) []))))))
  have hx7 : (upd H6 x (.ins (He.ga K "Memory") dx (putF "stored" (.ref ps) (putF "guards" (.ref pg) (putF "held" (.ref ph) (putF "count" (.int 0) [])))))) x = some (.ins (He.ga K "Memory") dx (putF "stored" (.ref ps) (putF "guards" (.ref pg) (putF "held" (.ref ph) (putF "count" (.int 0) []))))) := upd_same
  have keep7 : ∀ b o, b ≠ x → H6 b = some o → (upd H6 x (.ins (He.ga K "Memory") dx (putF "stored" (.ref ps) (putF "guards" (.ref pg) (putF "held" (.ref ph) (putF "count" (.int 0) [])))))) b = some o := fun b o n e => upd_at n e
  have hv7 := keep7 _ _ nxp (s6 _ _ hv5)
  have npg : pg ≠ x := fun e => by rw [e, hx5] at hpg5; cases hpg5
  have hpg7 := keep7 _ _ npg (s6 _ _ hpg5)
  have nga : ∀ b ∈ ga0.all ++ ga1.all, b ≠ x := fun b m e => by
    subst e
    have := al6.nd
    rw [List.append_assoc, List.append_assoc] at this
    refine (List.nodup_cons.mp this).1 ?_
    rcases List.mem_append.mp m with m | m <;> simp [m]
  have hg07 : GAt K (upd H6 x (.ins (He.ga K "Memory") dx (putF "stored" (.ref ps) (putF "guards" (.ref pg) (putF "held" (.ref ph) (putF "count" (.int 0) [])))))) ga0 gs0 := ⟨keep7 _ _ (nga _ (by simp [GAd.all])) (s6 _ _ hg05.g), keep7 _ _ (nga _ (by simp [GAd.all])) (s6 _ _ hg05.k), keep7 _ _ (nga _ (by simp [GAd.all])) (s6 _ _ hg05.w)⟩
  have hg17 : GAt K (upd H6 x (.ins (He.ga K "Memory") dx (putF "stored" (.ref ps) (putF "guards" (.ref pg) (putF "held" (.ref ph) (putF "count" (.int 0) [])))))) ga1 gs0 := ⟨keep7 _ _ (nga _ (by simp [GAd.all])) (s6 _ _ hg15.g), keep7 _ _ (nga _ (by simp [GAd.all])) (s6 _ _ hg15.k), keep7 _ _ (nga _ (by simp [GAd.all])) (s6 _ _ hg15.w)⟩
  have hps7 := keep7 _ _ (nx6 _ hps) hps6
  have h07 := keep7 _ _ (nx6 _ f0) h0.1
  have h17 := keep7 _ _ (nx6 _ f1) h1.1
  have kk7 : Keep H6 (upd H6 x (.ins (He.ga K "Memory") dx (putF "stored" (.ref ps) (putF "guards" (.ref pg) (putF "held" (.ref ph) (putF "count" (.int 0) [])))))) := (Keep.refl H6).upd fun u e => by
    rw [s6 _ _ hx5] at e
    cases e
    rfl
  have hb0 : Dp K (upd H6 x (.ins (He.ga K "Memory") dx (putF "stored" (.ref ps) (putF "guards" (.ref pg) (putF "held" (.ref ph) (putF "count" (.int 0) [])))))) b0 zero4 := Dp.keep kk7 _ _ h0.2 rfl
  have hb1 : Dp K (upd H6 x (.ins (He.ga K "Memory") dx (putF "stored" (.ref ps) (putF "guards" (.ref pg) (putF "held" (.ref ph) (putF "count" (.int 0) [])))))) b1 zero4 := Dp.keep kk7 _ _ h1.2 rfl
  clear keep7 kk7
  revert st7 al7 hx7 hv7 hpg7 hg07 hg17 hps7 h07 h17 hb0 hb1
  show Stays [x] H (upd H6 x (.ins (He.ga K "Memory") dx (putF "stored" (.ref ps) (putF "guards" (.ref pg) (putF "held" (.ref ph) (putF "count" (.int 0) [])))))) → _
  generalize upd H6 x (.ins (He.ga K "Memory") dx (putF "stored" (.ref ps) (putF "guards" (.ref pg) (putF "held" (.ref ph) (putF "count" (.int 0) []))))) = H7
  intro st7 al7 hx7 hv7 hpg7 hg07 hg17 hps7 h07 h17 hb0 hb1
  clear s6 hs als frs hps hps6 h0 h1 hx5 hv5 hpg5 hg05 hg15 al5 al6 st5 f0 f1 nx6 hl hsl
  walk_at "go"
  -- the journals
  refine lc_rng (fun k acc H' => Same H7 H' ∧ acc.length = k ∧ ∀ v ∈ acc, Dp K H' v (.tuple [])) ?_ ?_ ?_
  · intro D hD
    exact ⟨same_new (Same.refl H7) hD, rfl, by simp⟩
  · rintro k D acc H' hk hl hD hD' ⟨s, hl2, hj⟩
    have hk2 : k < 2 := by simpa using hk
    walk_at "go"
    intro p1 hp1
    have sA := same_new (o := .tup []) (Same.refl H') hp1
    have hD6 := sA _ _ hD'
    have n1 : p1 ≠ D := (ne_fresh hp1 hD').symm
    have kk : Keep (upd H' p1 (.tup [])) (upd (upd H' p1 (.tup [])) D (.lst (acc ++ [.ref p1]))) := (Keep.refl _).upd fun u e => by
      rw [hD6] at e
      cases e
      rfl
    refine lc_put hD6 hl (by omega) ⟨same_new (Same.trans s sA) hD, by simp [hl2], fun v m => ?_⟩
    rcases List.mem_append.mp m with m | m
    · exact Dp.keep ((Keep.same sA).trans kk) _ _ (hj v m) rfl
    · have : v = .ref p1 := by simpa using m
      subst this
      exact .tup (sqT (upd_at n1 upd_same)) .nil
  rintro pj acc H8 hl hpj hpj8 ⟨s8, hl2, hj⟩
  obtain ⟨j0, j1, rfl⟩ : ∃ a b, acc = [a, b] := by
    match acc, hl2 with
    | [a, b], _ => exact ⟨a, b, rfl⟩
  have al8 : AL (([x] ++ [ph] ++ (pg :: (ga0.all ++ ga1.all)) ++ [ps, a0, a1]) ++ [pj]) H8 := al7.joinSame s8 (by simp) (fun a m => by simp at m; rw [m]; exact hpj) fun a m => by simp at m; exact ⟨_, by rw [m]; exact hpj8⟩
  have npj : pj ≠ x := (ne_fresh hpj hx7).symm
  have fpj : H pj = none := st7.free (by simpa using npj) hpj
  walk_at "go"
  refine i_sfldIn (s8 _ _ hx7) Z.M.c Z.M.journals (Nat.le_of_ble_eq_true rfl) ?_
  walk_at "go"
  intro pr hpr
  have nprx : pr ≠ x := (ne_fresh hpr upd_same).symm
  have hpr8 : H8 pr = none := by
    cases e : H8 pr with
    | none => rfl
    | some o => rw [upd_at nprx e] at hpr; cases hpr
  have hx9 : (upd (upd H8 x (.ins (He.ga K "Memory") dx (putF "journals" (.ref pj) (putF "stored" (.ref ps) (putF "guards" (.ref pg) (putF "held" (.ref ph) (putF "count" (.int 0) []))))))) pr (.lst [])) x = some (.ins (He.ga K "Memory") dx (putF "journals" (.ref pj) (putF "stored" (.ref ps) (putF "guards" (.ref pg) (putF "held" (.ref ph) (putF "count" (.int 0) [])))))) := upd_at nprx.symm upd_same
  walk_at "go"
  refine i_sfldIn hx9 Z.M.c Z.M.rows (Nat.le_of_ble_eq_true rfl) ?_
  have al10 := ((al8.upd (p := x) (o := (.ins (He.ga K "Memory") dx (putF "journals" (.ref pj) (putF "stored" (.ref ps) (putF "guards" (.ref pg) (putF "held" (.ref ph) (putF "count" (.int 0) [])))))))).new (o := .lst []) hpr).upd (p := x) (o := (.ins (He.ga K "Memory") dx (putF "rows" (.ref pr) (putF "journals" (.ref pj) (putF "stored" (.ref ps) (putF "guards" (.ref pg) (putF "held" (.ref ph) (putF "count" (.int 0) []))))))))
  have st10 := (((st7.trans (Stays.same s8)).put (p := x) (o := (.ins (He.ga K "Memory") dx (putF "journals" (.ref pj) (putF "stored" (.ref ps) (putF "guards" (.ref pg) (putF "held" (.ref ph) (putF "count" (.int 0) []))))))) (by simp)).trans (Stays.same (same_new (o := .lst []) (Same.refl _) hpr))).put (p := x) (o := (.ins (He.ga K "Memory") dx (putF "rows" (.ref pr) (putF "journals" (.ref pj) (putF "stored" (.ref ps) (putF "guards" (.ref pg) (putF "held" (.ref ph) (putF "count" (.int 0) [])))))))) (by simp)
  have k10 : ∀ b o, b ≠ x → H7 b = some o → (upd (upd (upd H8 x (.ins (He.ga K "Memory") dx (putF "journals" (.ref pj) (putF "stored" (.ref ps) (putF "guards" (.ref pg) (putF "held" (.ref ph) (putF "count" (.int 0) []))))))) pr (.lst [])) x (.ins (He.ga K "Memory") dx (putF "rows" (.ref pr) (putF "journals" (.ref pj) (putF "stored" (.ref ps) (putF "guards" (.ref pg) (putF "held" (.ref ph) (putF "count" (.int 0) [])))))))) b = some o := fun b o n e => by
    have e8 := s8 _ _ e
    exact upd_at n (upd_at (ne_fresh hpr8 e8) (upd_at n e8))
  have k8 : ∀ b o, b ≠ x → H8 b = some o → (upd (upd (upd H8 x (.ins (He.ga K "Memory") dx (putF "journals" (.ref pj) (putF "stored" (.ref ps) (putF "guards" (.ref pg) (putF "held" (.ref ph) (putF "count" (.int 0) []))))))) pr (.lst [])) x (.ins (He.ga K "Memory") dx (putF "rows" (.ref pr) (putF "journals" (.ref pj) (putF "stored" (.ref ps) (putF "guards" (.ref pg) (putF "held" (.ref ph) (putF "count" (.int 0) [])))))))) b = some o := fun b o n e8 => upd_at n (upd_at (ne_fresh hpr8 e8) (upd_at n e8))
  have kk10 : Keep H8 (upd (upd (upd H8 x (.ins (He.ga K "Memory") dx (putF "journals" (.ref pj) (putF "stored" (.ref ps) (putF "guards" (.ref pg) (putF "held" (.ref ph) (putF "count" (.int 0) []))))))) pr (.lst [])) x (.ins (He.ga K "Memory") dx (putF "rows" (.ref pr) (putF "journals" (.ref pj) (putF "stored" (.ref ps) (putF "guards" (.ref pg) (putF "held" (.ref ph) (putF "count" (.int 0) [])))))))) := (((Keep.refl H8).upd fun u e => by rw [s8 _ _ hx7] at e; cases e; rfl).new hpr8).upd fun u e => by rw [s8 _ _ hx7] at e; cases e; rfl
  have nps : ps ≠ x := fun e => by rw [e, hx7] at hps7; cases hps7
  have na0 : a0 ≠ x := fun e => by rw [e, hx7] at h07; cases h07
  have na1 : a1 ≠ x := fun e => by rw [e, hx7] at h17; cases h17
  refine q ⟨x, dx, ph, pg, ga0, ga1, ps, a0, a1, pj, pr⟩ b0 b1 j0 j1 _ rfl st10 (fun b m n => ?_) ⟨upd_same, k10 _ _ nxp hv7, valsAt_len 2, k10 _ _ npg hpg7, ⟨k10 _ _ (nga _ (by simp [GAd.all])) hg07.g, k10 _ _ (nga _ (by simp [GAd.all])) hg07.k, k10 _ _ (nga _ (by simp [GAd.all])) hg07.w⟩,
    ⟨k10 _ _ (nga _ (by simp [GAd.all])) hg17.g, k10 _ _ (nga _ (by simp [GAd.all])) hg17.k, k10 _ _ (nga _ (by simp [GAd.all])) hg17.w⟩, k10 _ _ nps hps7, k10 _ _ na0 h07, by simp [ms0], k10 _ _ na1 h17, by simp [ms0], k8 _ _ npj hpj8, upd_at nprx upd_same, ?_⟩
    (Dp.keep ((Keep.same s8).trans kk10) _ _ hb0 rfl) (Dp.keep ((Keep.same s8).trans kk10) _ _ hb1 rfl) (Dp.keep kk10 _ _ (hj j0 (by simp)) rfl) (Dp.keep kk10 _ _ (hj j1 (by simp)) rfl)
  · have fpr : H pr = none := st7.free (by simpa using nprx) (same_free s8 hpr8)
    simp only [MAd.all, List.mem_cons, List.not_mem_nil, or_false] at m
    rcases m with m | m | m | m | m | m | m | m | m
    · exact absurd m n
    · rw [m]; exact fr4 _ (by simp)
    · rw [m]; exact fr4 _ (by simp)
    · rw [m]; exact fr6 _ (by simp)
    · rw [m]; exact fr6 _ (by simp)
    · rw [m]; exact fr6 _ (by simp)
    · rw [m]; exact fpj
    · rw [m]; exact fpr
    · exact fr4 _ (by simp [GAd.all]; exact .inr (.inr m))
  · refine al10.perm ?_
    simp only [MAd.all, GAd.all, List.cons_append, List.nil_append]
    refine List.perm_iff_count.mpr fun a => ?_
    simp only [List.count_cons, List.count_nil]
    omega
def q_is_within (K : PySem.W.Frag) (a0 a1 a2 : V) (H : Hp) (Q : VK) (E : XK) : Prop := ∃ (d : PyData) (lo hi : Int), a1 = .int lo ∧ a2 = .int hi ∧ Dp K H a0 d ∧ Q (.bl (within d lo hi)) H
def sp_is_within (K : PySem.W.Frag) : Sp := fun vs H Q E => match vs with
  | [a0, a1, a2] => q_is_within K a0 a1 a2 H Q E
  | _ => False
abbrev N_is_within : List Str := ["value", "low", "high"]
def t_is_within (K : PySem.W.Frag) (E : XK) : TS :=
  tRet (tAndV (tCB (rIsi K) (tCons (tVar 0) (tCons (tC (.ty "int")) (tNil)))) (tAndV (tNotV (tCB (rIsi K) (tCons (tVar 0) (tCons (tC (.ty "bool")) (tNil))))) (tChain (rLeI) (rLeI) (tVar 1) (tVar 0) (tVar 2))))
theorem pure_is_within {K : PySem.W.Frag} {a0 a1 a2 : V} {H : Hp} {Q : VK} {E : XK} (h : q_is_within K a0 a1 a2 H Q E) : t_is_within K E { nx := fun _ H' => Q .non H', rt := Q } (start N_is_within [a0, a1, a2]) H := by
  obtain ⟨d, lo, hi, rfl, rfl, hd, q⟩ := h
  unfold t_is_within
  walk_at "go"
  refine i_isiInt hd ?_
  walk_at "go"
  refine i_ite2 (fun c => ?_) (fun c => ?_)
  · walk_at "go"
    refine i_isiBool hd ?_
    walk_at "go"
    refine i_ite2 (fun c2 => ?_) (fun c2 => ?_)
    · obtain ⟨i, rfl⟩ := isI_inst c c2
      cases Dp.intOf hd
      have q : Q (.bl (decide (lo ≤ i) && decide (i ≤ hi))) H := q
      walk_at "go"
      refine i_ite2 (fun c => ?_) (fun c => ?_)
      · rw [c] at q
        walk_at "go"
        exact q
      · rw [c] at q
        exact q
    · rw [within_no (by rw [← inst_isI, c, c2]; rfl)] at q
      exact q
  · rw [within_no (by rw [← inst_isI, c]; rfl)] at q
    exact q
def q_Memory_check_cell (K : PySem.W.Frag) (a0 a1 : V) (H : Hp) (Q : VK) (E : XK) : Prop := ∃ d, Dp K H a1 d ∧ (within d 0 69 = true → Q .non H) ∧ (within d 0 69 = false → E (.ref (He.ga K "NotValid")) none H)
def sp_Memory_check_cell (K : PySem.W.Frag) : Sp := fun vs H Q E => match vs with
  | [a0, a1] => q_Memory_check_cell K a0 a1 H Q E
  | _ => False
abbrev N_Memory_check_cell : List Str := ["self", "cell"]
def t_Memory_check_cell (K : PySem.W.Frag) (E : XK) : TS :=
  tIfS (tNot (tTru K (tCall (sp_is_within K) [] E0 (tCons (tVar 1) (tCons (tC (.int 0)) (tCons (tOp (rSubI) (tC (.int 70)) (tC (.int 1))) (tNil))))))) (tRaiseE E (He.ga K "NotValid")) (tNext)
theorem pure_Memory_check_cell {K : PySem.W.Frag} {a0 a1 : V} {H : Hp} {Q : VK} {E : XK} (h : q_Memory_check_cell K a0 a1 H Q E) : t_Memory_check_cell K E { nx := fun _ H' => Q .non H', rt := Q } (start N_Memory_check_cell [a0, a1]) H := by
  obtain ⟨d, hd, q1, q2⟩ := h
  unfold t_Memory_check_cell
  walk_at "go"
  refine ⟨d, 0, 69, rfl, rfl, hd, ?_⟩
  walk_at "go"
  refine i_ite2 (fun c => ?_) (fun c => ?_)
  · exact q2 (by simpa using c)
  · exact i_next (q1 (by simpa using c))
def q_Memory_peek (K : PySem.W.Frag) (a0 a1 : V) (H : Hp) (Q : VK) (E : XK) : Prop := ∃ (A : MAd) (S : MS) (d : PyData), a0 = .ref A.m ∧ MAt K H A S ∧ Dp K H a1 d ∧ (∀ i v, d = .int i → 0 ≤ i → i ≤ 69 → S.held[i.toNat]? = some v → Q v H) ∧ (within d 0 69 = false → E (.ref (He.ga K "NotValid")) none H)
def sp_Memory_peek (K : PySem.W.Frag) : Sp := fun vs H Q E => match vs with
  | [a0, a1] => q_Memory_peek K a0 a1 H Q E
  | _ => False
abbrev N_Memory_peek : List Str := ["self", "cell"]
def t_Memory_peek (K : PySem.W.Frag) (E : XK) : TS :=
  tSeq (tDrop (tMeth (He.ga K "Memory") "check_cell" (sp_Memory_check_cell K) [] E (tVar 0) (tCons (tVar 1) (tNil)))) (tRet (tOp (rIx K) (tFld K (tVar 0) "held") (tVar 1)))
theorem pure_Memory_peek {K : PySem.W.Frag} (Z : Zx K) {a0 a1 : V} {H : Hp} {Q : VK} {E : XK} (h : q_Memory_peek K a0 a1 H Q E) : t_Memory_peek K E { nx := fun _ H' => Q .non H', rt := Q } (start N_Memory_peek [a0, a1]) H := by
  obtain ⟨A, S, d, rfl, hM, hd, q1, q2⟩ := h
  unfold t_Memory_peek
  walk_at "go"
  refine i_methIn hM.m rfl ?_
  walk_at "go"
  refine ⟨d, hd, fun c => ?_, q2⟩
  obtain ⟨i, rfl, i0, i1⟩ := within_of c
  cases Dp.intOf hd
  walk_at "go"
  refine i_fldIn hM.m Z.M.c Z.M.held rfl ?_
  walk_at "go"
  have lt : i.toNat < S.held.length := by rw [hM.hl]; omega
  refine i_ixLn (sqL hM.h) i0 (List.getElem?_eq_getElem lt) ?_
  exact q1 i _ rfl i0 i1 (List.getElem?_eq_getElem lt)
def q_Memory_check_device (K : PySem.W.Frag) (a0 a1 : V) (H : Hp) (Q : VK) (E : XK) : Prop := ∃ d, Dp K H a1 d ∧ (within d 0 1 = true → Q .non H) ∧ (within d 0 1 = false → E (.ref (He.ga K "NotValid")) none H)
def sp_Memory_check_device (K : PySem.W.Frag) : Sp := fun vs H Q E => match vs with
  | [a0, a1] => q_Memory_check_device K a0 a1 H Q E
  | _ => False
abbrev N_Memory_check_device : List Str := ["self", "device"]
def t_Memory_check_device (K : PySem.W.Frag) (E : XK) : TS :=
  tIfS (tNot (tTru K (tCall (sp_is_within K) [] E0 (tCons (tVar 1) (tCons (tC (.int 0)) (tCons (tOp (rSubI) (tC (.int 2)) (tC (.int 1))) (tNil))))))) (tRaiseE E (He.ga K "NotValid")) (tNext)
theorem pure_Memory_check_device {K : PySem.W.Frag} {a0 a1 : V} {H : Hp} {Q : VK} {E : XK} (h : q_Memory_check_device K a0 a1 H Q E) : t_Memory_check_device K E { nx := fun _ H' => Q .non H', rt := Q } (start N_Memory_check_device [a0, a1]) H := by
  obtain ⟨d, hd, q1, q2⟩ := h
  unfold t_Memory_check_device
  walk_at "go"
  refine ⟨d, 0, 1, rfl, rfl, hd, ?_⟩
  walk_at "go"
  refine i_ite2 (fun c => ?_) (fun c => ?_)
  · exact q2 (by simpa using c)
  · exact i_next (q1 (by simpa using c))
def q_Memory_journal (K : PySem.W.Frag) (a0 a1 : V) (H : Hp) (Q : VK) (E : XK) : Prop := ∃ (A : MAd) (S : MS) (d : PyData), a0 = .ref A.m ∧ MAt K H A S ∧ Dp K H a1 d ∧ (d = .int 0 → Q S.j0 H) ∧ (d = .int 1 → Q S.j1 H) ∧ (within d 0 1 = false → E (.ref (He.ga K "NotValid")) none H)
def sp_Memory_journal (K : PySem.W.Frag) : Sp := fun vs H Q E => match vs with
  | [a0, a1] => q_Memory_journal K a0 a1 H Q E
  | _ => False
abbrev N_Memory_journal : List Str := ["self", "device"]
def t_Memory_journal (K : PySem.W.Frag) (E : XK) : TS :=
  tSeq (tDrop (tMeth (He.ga K "Memory") "check_device" (sp_Memory_check_device K) [] E (tVar 0) (tCons (tVar 1) (tNil)))) (tRet (tOp (rIx K) (tFld K (tVar 0) "journals") (tVar 1)))
theorem pure_Memory_journal {K : PySem.W.Frag} (Z : Zx K) {a0 a1 : V} {H : Hp} {Q : VK} {E : XK} (h : q_Memory_journal K a0 a1 H Q E) : t_Memory_journal K E { nx := fun _ H' => Q .non H', rt := Q } (start N_Memory_journal [a0, a1]) H := by
  obtain ⟨A, S, d, rfl, hM, hd, q0, q1, q2⟩ := h
  unfold t_Memory_journal
  walk_at "go"
  refine i_methIn hM.m rfl ?_
  walk_at "go"
  refine ⟨d, hd, fun c => ?_, q2⟩
  obtain ⟨i, rfl, i0, i1⟩ := within_of c
  cases Dp.intOf hd
  walk_at "go"
  refine i_fldIn hM.m Z.M.c Z.M.journals rfl ?_
  walk_at "go"
  have : i = 0 ∨ i = 1 := by omega
  rcases this with rfl | rfl
  · exact i_ixLn (sqL hM.js) (by decide) rfl (q0 rfl)
  · exact i_ixLn (sqL hM.js) (by decide) rfl (q1 rfl)
def q_Guard_entries (K : PySem.W.Frag) (a0 : V) (H : Hp) (Q : VK) (E : XK) : Prop := ∃ (a : GAd) (s : GS), a0 = .ref a.g ∧ GAt K H a s ∧ s.kept = [] ∧ ∀ (l : Addr) (H' : Hp), Same H H' → H' l = some (.lst []) → Q (.ref l) H'
def sp_Guard_entries (K : PySem.W.Frag) : Sp := fun vs H Q E => match vs with
  | [a0] => q_Guard_entries K a0 H Q E
  | _ => False
abbrev N_Guard_entries : List Str := ["self", "page"]
def t_Guard_entries (K : PySem.W.Frag) (E : XK) : TS :=
  tRet (tLc (iList K (tCB (rSortedDI) (tCons (tFld K (tVar 0) "kept") (tNil)))) (gName 1) (tYes) (tTup (tCons (tVar 1) (tCons (tDGet (tFld K (tVar 0) "kept") (tVar 1)) (tNil)))) [1])
theorem pure_Guard_entries {K : PySem.W.Frag} (Z : Zx K) {a0 : V} {H : Hp} {Q : VK} {E : XK} (h : q_Guard_entries K a0 H Q E) : t_Guard_entries K E { nx := fun _ H' => Q .non H', rt := Q } (start N_Guard_entries [a0]) H := by
  obtain ⟨a, s, rfl, hG, hk, q⟩ := h
  have hk' := hG.k
  rw [hk] at hk'
  unfold t_Guard_entries
  walk_at "go"
  refine i_fldIn hG.g Z.M.g Z.M.kept rfl ?_
  walk_at "go"
  refine ⟨a.k, [], [], rfl, .inl hk', rfl, by decide, fun ys p hy _ hp => ?_⟩
  have ey : ys = [] := hy.eq_nil
  subst ey
  have s1 := same_new (o := .lst (([] : List Int).map V.int)) (Same.refl H) hp
  walk_at "go"
  refine lc_list (([] : List Int).map V.int) (fun k acc H' => Same (upd H p (.lst (([] : List Int).map V.int))) H') ?_ ?_ ?_ ?_
  · intro k D acc H' hD hD' s
    exact sqL (s _ _ upd_same)
  · intro D hD
    exact same_new (Same.refl _) hD
  · intro k x D acc H' hx
    simp at hx
  · intro D acc H' hl hD hD' s
    have : acc = [] := List.length_eq_zero_iff.mp hl
    subst this
    exact q D H' (Same.trans s1 s) hD'
def q_Guard_queue (K : PySem.W.Frag) (a0 : V) (H : Hp) (Q : VK) (E : XK) : Prop := ∃ (a : GAd) (s : GS), a0 = .ref a.g ∧ GAt K H a s ∧ ∀ (l : Addr) (H' : Hp), Same H H' → H l = none → H' l = some (.lst s.wait) → Q (.ref l) H'
def sp_Guard_queue (K : PySem.W.Frag) : Sp := fun vs H Q E => match vs with
  | [a0] => q_Guard_queue K a0 H Q E
  | _ => False
abbrev N_Guard_queue : List Str := ["self"]
def t_Guard_queue (K : PySem.W.Frag) (E : XK) : TS :=
  tRet (tCB (rListC K) (tCons (tFld K (tVar 0) "waiting") (tNil)))
theorem pure_Guard_queue {K : PySem.W.Frag} (Z : Zx K) {a0 : V} {H : Hp} {Q : VK} {E : XK} (h : q_Guard_queue K a0 H Q E) : t_Guard_queue K E { nx := fun _ H' => Q .non H', rt := Q } (start N_Guard_queue [a0]) H := by
  obtain ⟨a, s, rfl, hG, q⟩ := h
  unfold t_Guard_queue
  walk_at "go"
  refine i_fldIn hG.g Z.M.g Z.M.waiting rfl ?_
  walk_at "go"
  refine i_listL (sqL hG.w) fun l hl => ?_
  exact q l _ (same_new (Same.refl H) hl) hl upd_same
def q_Memory_check_block (K : PySem.W.Frag) (a0 a1 : V) (H : Hp) (Q : VK) (E : XK) : Prop := ∃ d, Dp K H a1 d ∧ (within d 0 7 = true → Q .non H) ∧ (within d 0 7 = false → E (.ref (He.ga K "NotValid")) none H)
def sp_Memory_check_block (K : PySem.W.Frag) : Sp := fun vs H Q E => match vs with
  | [a0, a1] => q_Memory_check_block K a0 a1 H Q E
  | _ => False
abbrev N_Memory_check_block : List Str := ["self", "block"]
def t_Memory_check_block (K : PySem.W.Frag) (E : XK) : TS :=
  tIfS (tNot (tTru K (tCall (sp_is_within K) [] E0 (tCons (tVar 1) (tCons (tC (.int 0)) (tCons (tOp (rSubI) (tC (.int 8)) (tC (.int 1))) (tNil))))))) (tRaiseE E (He.ga K "NotValid")) (tNext)
theorem pure_Memory_check_block {K : PySem.W.Frag} {a0 a1 : V} {H : Hp} {Q : VK} {E : XK} (h : q_Memory_check_block K a0 a1 H Q E) : t_Memory_check_block K E { nx := fun _ H' => Q .non H', rt := Q } (start N_Memory_check_block [a0, a1]) H := by
  obtain ⟨d, hd, q1, q2⟩ := h
  unfold t_Memory_check_block
  walk_at "go"
  refine ⟨d, 0, 7, rfl, rfl, hd, ?_⟩
  walk_at "go"
  refine i_ite2 (fun c => ?_) (fun c => ?_)
  · exact q2 (by simpa using c)
  · exact i_next (q1 (by simpa using c))
def q_Memory_block (K : PySem.W.Frag) (a0 a1 a2 : V) (H : Hp) (Q : VK) (E : XK) : Prop := ∃ (A : MAd) (S : MS) (d b : PyData), a0 = .ref A.m ∧ MAt K H A S ∧ Dp K H a1 d ∧ Dp K H a2 b ∧ (∀ i v, d = .int 0 → b = .int i → 0 ≤ i → i ≤ 7 → S.s0[i.toNat]? = some v → Q v H) ∧ (∀ i v, d = .int 1 → b = .int i → 0 ≤ i → i ≤ 7 → S.s1[i.toNat]? = some v → Q v H) ∧
  ((within d 0 1 && within b 0 7) = false → E (.ref (He.ga K "NotValid")) none H)
def sp_Memory_block (K : PySem.W.Frag) : Sp := fun vs H Q E => match vs with
  | [a0, a1, a2] => q_Memory_block K a0 a1 a2 H Q E
  | _ => False
abbrev N_Memory_block : List Str := ["self", "device", "block"]
def t_Memory_block (K : PySem.W.Frag) (E : XK) : TS :=
  tSeq (tDrop (tMeth (He.ga K "Memory") "check_device" (sp_Memory_check_device K) [] E (tVar 0) (tCons (tVar 1) (tNil)))) (tSeq (tDrop (tMeth (He.ga K "Memory") "check_block" (sp_Memory_check_block K) [] E (tVar 0) (tCons (tVar 2) (tNil)))) (tRet (tOp (rIx K) (tOp (rIx K) (tFld K (tVar 0) "stored") (tVar 1)) (tVar 2))))
theorem pure_Memory_block {K : PySem.W.Frag} (Z : Zx K) {a0 a1 a2 : V} {H : Hp} {Q : VK} {E : XK} (h : q_Memory_block K a0 a1 a2 H Q E) : t_Memory_block K E { nx := fun _ H' => Q .non H', rt := Q } (start N_Memory_block [a0, a1, a2]) H := by
  obtain ⟨A, S, d, b, rfl, hM, hd, hb, q0, q1, q2⟩ := h
  unfold t_Memory_block
  walk_at "go"
  refine i_methIn hM.m rfl ?_
  walk_at "go"
  refine ⟨d, hd, fun c => ?_, fun c => q2 (by rw [c]; rfl)⟩
  rw [c, Bool.true_and] at q2
  walk_at "go"
  refine i_methIn hM.m rfl ?_
  walk_at "go"
  refine ⟨b, hb, fun c2 => ?_, q2⟩
  obtain ⟨i, rfl, i0, i1⟩ := within_of c
  cases Dp.intOf hd
  obtain ⟨j, rfl, j0, j1⟩ := within_of c2
  cases Dp.intOf hb
  walk_at "go"
  refine i_fldIn hM.m Z.M.c Z.M.stored rfl ?_
  walk_at "go"
  have : i = 0 ∨ i = 1 := by omega
  rcases this with rfl | rfl
  · refine i_ixLn (sqL hM.ss) (by decide) rfl ?_
    walk_at "go"
    have lt : j.toNat < S.s0.length := by rw [hM.l0]; omega
    exact i_ixLn (sqL hM.s0) j0 (List.getElem?_eq_getElem lt) (q0 j _ rfl rfl j0 j1 (List.getElem?_eq_getElem lt))
  · refine i_ixLn (sqL hM.ss) (by decide) rfl ?_
    walk_at "go"
    have lt : j.toNat < S.s1.length := by rw [hM.l1]; omega
    exact i_ixLn (sqL hM.s1) j0 (List.getElem?_eq_getElem lt) (q1 j _ rfl rfl j0 j1 (List.getElem?_eq_getElem lt))
def q_law_at (K : PySem.W.Frag) (a0 a1 : V) (H : Hp) (Q : VK) (E : XK) : Prop := ∃ (l : Addr) (ms : List Int) (k : Int), a0 = .ref l ∧ a1 = .int k ∧ H l = some (.lst (ms.map V.int)) ∧ (∀ m ∈ ms, 0 ≤ m ∧ m < 1000) ∧ 0 ≤ k ∧ ∀ v, 0 ≤ v → v < 1000 → Q (.int v) H
def sp_law_at (K : PySem.W.Frag) : Sp := fun vs H Q E => match vs with
  | [a0, a1] => q_law_at K a0 a1 H Q E
  | _ => False
abbrev N_law_at : List Str := ["_law_tape_here", "_law_k"]
def t_law_at (K : PySem.W.Frag) (E : XK) : TS :=
  tSeq (tIfS (tTest (tOp (rLtI) (tVar 1) (tCB (rLenA K) (tCons (tVar 0) (tNil))))) (tRet (tOp (rIx K) (tVar 0) (tVar 1))) (tNext)) (tRet (tC (.int 0)))
theorem pure_law_at {K : PySem.W.Frag} {a0 a1 : V} {H : Hp} {Q : VK} {E : XK} (h : q_law_at K a0 a1 H Q E) : t_law_at K E { nx := fun _ H' => Q .non H', rt := Q } (start N_law_at [a0, a1]) H := by
  obtain ⟨l, ms, k, rfl, rfl, hl, hm, hk, q⟩ := h
  unfold t_law_at
  walk_at "go"
  refine i_ite2 (fun c => ?_) (fun c => ?_)
  · have c := of_decide_eq_true c
    rw [List.length_map] at c
    have c' : k.toNat < ms.length := by omega
    walk_at "go"
    have := hm _ (List.getElem_mem c')
    refine i_ixLn (v := .int (ms[k.toNat])) (sqL hl) hk (by simp [c']) ?_
    exact q _ this.1 this.2
  · walk_at "go"
    exact q 0 (by decide) (by decide)
def q_law_told (K : PySem.W.Frag) (a0 a1 a2 a3 : V) (H : Hp) (Q : VK) (E : XK) : Prop := ∃ (A : MAd) (S : MS) (d1 d2 : PyData), a0 = .ref A.m ∧ MAt K H A S ∧ Dp K H a2 d1 ∧ Dp K H a3 d2 ∧
  ((a1 = .str "peek" ∧ within d1 0 69 = false) ∨ (a1 = .str "journal" ∧ within d1 0 1 = false) ∨ (a1 = .str "block" ∧ (within d1 0 1 && within d2 0 7) = false)) ∧ ∀ v H', Same H H' → Dp K H' v refD → Q v H'
def sp_law_told (K : PySem.W.Frag) : Sp := fun vs H Q E => match vs with
  | [a0, a1, a2, a3] => q_law_told K a0 a1 a2 a3 H Q E
  | _ => False
abbrev N_law_told : List Str := ["_law_memory", "_law_act", "_law_first", "_law_second", "e"]
def t_law_told (K : PySem.W.Frag) (E : XK) : TS :=
  tTryAs K (He.ga K "RingError") 4 (fun W => tSeq (tIfS (tTest (tOp (rEqD K) (tVar 1) (tC (.str "peek")))) (tRet (tMethS (He.ga K "Memory") "peek" (sp_Memory_peek K) (WE W) (tVar 0) (tCons (tVar 2) (tNil)))) (tNext)) (tSeq (tIfS (tTest (tOp (rEqD K) (tVar 1) (tC (.str "journal")))) (tRet (tMethS (He.ga K "Memory") "journal" (sp_Memory_journal K) (WE W) (tVar 0) (tCons (tVar 2) (tNil)))) (tNext)) (tRet (tMethS (He.ga K "Memory") "block" (sp_Memory_block K) (WE W) (tVar 0) (tCons (tVar 2) (tCons (tVar 3) (tNil))))))) (fun a cls d => tKn (He.ga K "NotValid") (tRet (tLst (tCons (tC (.str "refused")) (tCons (tCB (rIsE K (He.ga K "NotValid") a) (tCons (tVar 4) (tCons (tC (.ref (He.ga K "NotValid"))) (tNil)))) (tNil))))) cls d) (fun _ _ _ _ => False)
theorem pure_law_told {K : PySem.W.Frag} (Z : Zx K) {a0 a1 a2 a3 : V} {H : Hp} {Q : VK} {E : XK} (h : q_law_told K a0 a1 a2 a3 H Q E) : t_law_told K E { nx := fun _ H' => Q .non H', rt := Q } (start N_law_told [a0, a1, a2, a3]) H := by
  obtain ⟨A, S, d1, d2, rfl, hM, h1, h2, hc, q⟩ := h
  unfold t_law_told
  rcases hc with ⟨rfl, c⟩ | ⟨rfl, c⟩ | ⟨rfl, c⟩
  · walk_at "go"
    refine i_methIn hM.m rfl ?_
    walk_at "go"
    refine ⟨A, S, d1, rfl, hM, h1, fun i v e i0 i1 _ => ?_, fun _ => ?_⟩
    · subst e
      have : within (.int i) 0 69 = true := by
        show (decide (0 ≤ i) && decide (i ≤ 69)) = true
        rw [decide_eq_true i0, decide_eq_true i1]
        rfl
      rw [this] at c
      cases c
    · refine i_wAs Z.mm fun x hx => ?_
      walk_at "go"
      intro p hp
      exact q _ _ (same_new (Same.refl H) hp) (.lst (sqL upd_same) (.cons (.str _) (.cons (.bl _) .nil)))
  · walk_at "go"
    refine i_methIn hM.m rfl ?_
    walk_at "go"
    refine ⟨A, S, d1, rfl, hM, h1, fun e => ?_, fun e => ?_, fun _ => ?_⟩
    · subst e
      cases c
    · subst e
      cases c
    · refine i_wAs Z.mm fun x hx => ?_
      walk_at "go"
      intro p hp
      exact q _ _ (same_new (Same.refl H) hp) (.lst (sqL upd_same) (.cons (.str _) (.cons (.bl _) .nil)))
  · walk_at "go"
    refine i_methIn hM.m rfl ?_
    walk_at "go"
    have no : ∀ (i : Int) (j : Int), d2 = .int i → 0 ≤ i → i ≤ 7 → d1 = .int j → 0 ≤ j → j ≤ 1 → False := fun i j e i0 i1 e2 j0 j1 => by
      subst e e2
      have w1 : within (.int j) 0 1 = true := by
        show (decide (0 ≤ j) && decide (j ≤ 1)) = true
        rw [decide_eq_true j0, decide_eq_true j1]
        rfl
      have w2 : within (.int i) 0 7 = true := by
        show (decide (0 ≤ i) && decide (i ≤ 7)) = true
        rw [decide_eq_true i0, decide_eq_true i1]
        rfl
      rw [w1, w2] at c
      cases c
    refine ⟨A, S, d1, d2, rfl, hM, h1, h2, fun i v e1 e2 i0 i1 _ => ?_, fun i v e1 e2 i0 i1 _ => ?_, fun _ => ?_⟩
    · exact (no i 0 e2 i0 i1 e1 (by decide) (by decide)).elim
    · exact (no i 1 e2 i0 i1 e1 (by decide) (by decide)).elim
    · refine i_wAs Z.mm fun x hx => ?_
      walk_at "go"
      intro p hp
      exact q _ _ (same_new (Same.refl H) hp) (.lst (sqL upd_same) (.cons (.str _) (.cons (.bl _) .nil)))
def q_Memory_log (K : PySem.W.Frag) (a0 : V) (H : Hp) (Q : VK) (E : XK) : Prop := ∃ (A : MAd) (S : MS), a0 = .ref A.m ∧ MAt K H A S ∧ ∀ (l : Addr) (H' : Hp), Same H H' → H l = none → H' l = some (.lst S.rows) → Q (.ref l) H'
def sp_Memory_log (K : PySem.W.Frag) : Sp := fun vs H Q E => match vs with
  | [a0] => q_Memory_log K a0 H Q E
  | _ => False
abbrev N_Memory_log : List Str := ["self"]
def t_Memory_log (K : PySem.W.Frag) (E : XK) : TS :=
  tRet (tCB (rListC K) (tCons (tFld K (tVar 0) "rows") (tNil)))
theorem pure_Memory_log {K : PySem.W.Frag} (Z : Zx K) {a0 : V} {H : Hp} {Q : VK} {E : XK} (h : q_Memory_log K a0 H Q E) : t_Memory_log K E { nx := fun _ H' => Q .non H', rt := Q } (start N_Memory_log [a0]) H := by
  obtain ⟨A, S, rfl, hM, q⟩ := h
  unfold t_Memory_log
  walk_at "go"
  refine i_fldIn hM.m Z.M.c Z.M.rows rfl ?_
  walk_at "go"
  refine i_listL (sqL hM.r) fun l hl => ?_
  exact q l _ (same_new (Same.refl H) hl) hl upd_same
def q_law (K : PySem.W.Frag) (a0 : V) (H : Hp) (Q : VK) (E : XK) : Prop := ∃ (a : Addr) (ns : List Int), a0 = .ref a ∧ ns.length ≤ 63 ∧ SqL K H a (ns.map V.int) ∧ ∀ H', Q (.bl true) H'
def sp_law (K : PySem.W.Frag) : Sp := fun vs H Q E => match vs with
  | [a0] => q_law K a0 H Q E
  | _ => False
abbrev N_law : List Str := ["_law_script", "_law_tape_here", "_law_memory", "_law_cell", "_law_device", "_law_k", "_law_empty", "_law_value", "_law_block", "_law_wrong", "_law_other"]
def t_law (K : PySem.W.Frag) (E : XK) : TS :=
  tSeq (tIfS (tOr (tTest (tOp (rNeD K) (tTup (tCons (tC (.int 2)) (tCons (tC (.int 6)) (tCons (tC (.int 6)) (tCons (tC (.int 4)) (tCons (tC (.int 8)) (tNil))))))) (tTup (tCons (tC (.int 2)) (tCons (tC (.int 6)) (tCons (tC (.int 6)) (tCons (tC (.int 4)) (tCons (tC (.int 8)) (tNil))))))))) (tTest (tOp (rNeD K) (tCall (sp_law_listed K) [] E0 tNil) (tLc (iRng1 (tCons (tC (.int 70)) (tNil))) (gName 5) (tYes) (tVar 5) [5])))) (tRet (tC (.bl false))) (tNext)) (tSeq (tAsg (tCall (sp_law_tape K) [] E0 (tCons (tVar 0) (tNil))) (gName 1)) (tSeq (tAsg (tMake (He.ga K "Memory") (sp_Memory_init K) [] E0 tNil) (gName 2)) (tSeq (tFor (iRng1 (tCons (tC (.int 70)) (tNil))) (gName 3) (tSeq (tAsg (tOrV (tOp (rLtI) (tVar 3) (tC (.int 8))) (tOrV (tChain (rLeI) (rLtI) (tC (.int 24)) (tVar 3) (tC (.int 32))) (tChain (rLeI) (rLtI) (tC (.int 56)) (tVar 3) (tC (.int 68))))) (gName 6)) (tSeq (tAsg (tMeth (He.ga K "Memory") "peek" (sp_Memory_peek K) [] E0 (tVar 2) (tCons (tVar 3) (tNil))) (gName 7)) (tIfS (tOr (tAnd (tTru K (tVar 6)) (tTest (tOp (rNotN) (tVar 7) (tC .non)))) (tAnd (tNot (tTru K (tVar 6))) (tOr (tTest (tOp (rIsN) (tVar 7) (tC .non))) (tOr (tTru K (tCB (rIsi K) (tCons (tVar 7) (tCons (tC (.ty "bool")) (tNil))))) (tTest (tOp (rNeD K) (tVar 7) (tC (.int 0)))))))) (tRet (tC (.bl false))) (tNext))))) (tSeq (tFor (iRng1 (tCons (tC (.int 2)) (tNil))) (gName 4) (tSeq (tIfS (tOr (tTest (tOp (rNeD K) (tMeth (He.ga K "Memory") "journal" (sp_Memory_journal K) [] E0 (tVar 2) (tCons (tVar 4) (tNil))) (tTup (tNil)))) (tOr (tTest (tOp (rNeD K) (tMeth (He.ga K "Guard") "entries" (sp_Guard_entries K) [] E0 (tOp (rIx K) (tFld K (tVar 2) "guards") (tVar 4)) tNil) (tLst (tNil)))) (tTest (tOp (rNeD K) (tMeth (He.ga K "Guard") "queue" (sp_Guard_queue K) [] E0 (tOp (rIx K) (tFld K (tVar 2) "guards") (tVar 4)) tNil) (tLst (tNil)))))) (tRet (tC (.bl false))) (tNext)) (tFor (iRng1 (tCons (tC (.int 8)) (tNil))) (gName 8) (tIfS (tTest (tOp (rNeD K) (tMeth (He.ga K "Memory") "block" (sp_Memory_block K) [] E0 (tVar 2) (tCons (tVar 4) (tCons (tVar 8) (tNil)))) (tTup (tCons (tC (.int 0)) (tCons (tC (.int 0)) (tCons (tC (.int 0)) (tCons (tC (.int 0)) (tNil)))))))) (tRet (tC (.bl false))) (tNext))))) (tSeq (tFor (iRng1 (tCons (tCB (rMin2) (tCons (tC (.int 20)) (tCons (tCB (rLenA K) (tCons (tVar 1) (tNil))) (tNil)))) (tNil))) (gName 5) (tSeq (tAsg (tOp (rIx K) (tLst (tCons (tC (.int 70)) (tCons (tUn rNegI (tC (.int 1))) (tCons (tOp (rAddA K) (tC (.int 70)) (tCall (sp_law_at K) [] E0 (tCons (tVar 1) (tCons (tVar 5) (tNil))))) (tCons (tC .non) (tNil)))))) (tOp (rModI) (tCall (sp_law_at K) [] E0 (tCons (tVar 1) (tCons (tVar 5) (tNil)))) (tC (.int 4)))) (gName 9)) (tSeq (tIfS (tTest (tOp (rNeD K) (tCall (sp_law_told K) [] E0 (tCons (tVar 2) (tCons (tC (.str "peek")) (tCons (tVar 9) (tCons (tC (.int 0)) (tNil)))))) (tLst (tCons (tC (.str "refused")) (tCons (tC (.bl true)) (tNil)))))) (tRet (tC (.bl false))) (tNext)) (tSeq (tAsg (tOp (rIx K) (tLst (tCons (tC (.int 2)) (tCons (tUn rNegI (tC (.int 1))) (tCons (tOp (rAddA K) (tC (.int 2)) (tCall (sp_law_at K) [] E0 (tCons (tVar 1) (tCons (tVar 5) (tNil))))) (tNil))))) (tOp (rModI) (tCall (sp_law_at K) [] E0 (tCons (tVar 1) (tCons (tVar 5) (tNil)))) (tC (.int 3)))) (gName 10)) (tSeq (tIfS (tTest (tOp (rNeD K) (tCall (sp_law_told K) [] E0 (tCons (tVar 2) (tCons (tC (.str "journal")) (tCons (tVar 10) (tCons (tC (.int 0)) (tNil)))))) (tLst (tCons (tC (.str "refused")) (tCons (tC (.bl true)) (tNil)))))) (tRet (tC (.bl false))) (tNext)) (tSeq (tIfS (tTest (tOp (rNeD K) (tCall (sp_law_told K) [] E0 (tCons (tVar 2) (tCons (tC (.str "block")) (tCons (tVar 10) (tCons (tC (.int 0)) (tNil)))))) (tLst (tCons (tC (.str "refused")) (tCons (tC (.bl true)) (tNil)))))) (tRet (tC (.bl false))) (tNext)) (tIfS (tTest (tOp (rNeD K) (tCall (sp_law_told K) [] E0 (tCons (tVar 2) (tCons (tC (.str "block")) (tCons (tOp (rModI) (tVar 5) (tC (.int 2))) (tCons (tOp (rIx K) (tLst (tCons (tC (.int 8)) (tCons (tUn rNegI (tC (.int 1))) (tCons (tOp (rAddA K) (tC (.int 9)) (tVar 5)) (tNil))))) (tOp (rModI) (tVar 5) (tC (.int 3)))) (tNil)))))) (tLst (tCons (tC (.str "refused")) (tCons (tC (.bl true)) (tNil)))))) (tRet (tC (.bl false))) (tNext)))))))) (tRet (tAndV (tOp (rEqD K) (tFld K (tVar 2) "count") (tC (.int 0))) (tOp (rEqD K) (tMeth (He.ga K "Memory") "log" (sp_Memory_log K) [] E0 (tVar 2) tNil) (tLst (tNil))))))))))
theorem vals_at (c : Nat) (h : c < 70) : (valsAt 2)[c]? = some (if c < 8 ∨ 24 ≤ c ∧ c < 32 ∨ 56 ≤ c ∧ c < 68 then .non else .int 0) := by
  have e : valsAt 2 = (List.range 70).map fun c => if c < 8 ∨ 24 ≤ c ∧ c < 32 ∨ 56 ≤ c ∧ c < 68 then V.non else V.int 0 := by rfl
  rw [e, List.getElem?_map, List.getElem?_range h]
  rfl
theorem pure_law {K : PySem.W.Frag} (Z : Zx K) {a0 : V} {H : Hp} {Q : VK} {E : XK} (h : q_law K a0 H Q E) : t_law K E { nx := fun _ H' => Q .non H', rt := Q } (start N_law [a0]) H := by
  obtain ⟨sc, ns, rfl, hns, hsc, q⟩ := h
  unfold t_law
  walk_at "go"
  intro p1 hp1
  walk_at "go"
  intro p2 hp2
  have n12 : p1 ≠ p2 := ne_fresh hp2 upd_same
  have five : ∀ (H : Hp) (p : Addr), SqT K H p [.int 2, .int 6, .int 6, .int 4, .int 8] → Dp K H (.ref p) (.tuple ([2, 6, 6, 4, 8].map .int)) := fun H p h => .tup h (DpAll.ints [2, 6, 6, 4, 8])
  refine i_neR (n := 3) (five _ _ (sqT (upd_at n12 upd_same))) (five _ _ (sqT upd_same)) ⟨by decide +kernel, by decide +kernel⟩ (by decide) ?_
  have s2 : Same H (upd (upd H p1 (.tup [.int 2, .int 6, .int 6, .int 4, .int 8])) p2 (.tup [.int 2, .int 6, .int 6, .int 4, .int 8])) := same_nx (same_nx (Same.refl H) hp1) hp2
  revert s2
  generalize upd (upd H p1 (.tup [.int 2, .int 6, .int 6, .int 4, .int 8])) p2 (.tup [.int 2, .int 6, .int 6, .int 4, .int 8]) = H2
  intro s2
  walk_at "go"
  intro l1 H3 s3 hl1
  walk_at "go"
  refine lc_rng (fun k acc H' => Same H3 H' ∧ acc = rangeL k) ?_ ?_ ?_
  · intro D hD
    exact ⟨same_new (Same.refl H3) hD, rfl⟩
  · rintro k D acc H' hk hl hD hD' ⟨s, rfl⟩
    walk_at "go"
    refine lc_put hD' hl (by simp at hk; omega) ⟨same_new s hD, ?_⟩
    rw [rangeL_succ, Int.zero_add]
  rintro D acc H4 hl hD hD' ⟨s4, rfl⟩
  refine i_neR (d := .list ((List.range 70).map fun i : Nat => PyData.int (i : Int))) (.lst (sqL (s4 _ _ hl1)) (rangeL_dp 70)) (.lst (sqL hD') (rangeL_dp 70)) (range_sh 70) (by decide) ?_
  walk_at "go"
  refine ⟨sc, ns, rfl, sqL_same (Same.trans s2 (Same.trans s3 s4)) hsc, hns, fun a ms H5 s5 ha hx hm hz => ?_⟩
  clear hD' hl1 hl hD hp1 hp2 n12 s2 s3 s4 hsc five
  walk_at "go"
  intro x dx hx0 hdx ndx
  have sA : Same H5 (upd (upd H5 dx (.own x)) x (.ins (He.ga K "Memory") dx [])) := same_new (same_new (Same.refl H5) hdx) hx0
  refine ⟨x, dx, rfl, upd_same, fun A b0 b1 j0 j1 H6 eA st fr hM hb0 hb1 hj0 hj1 => ⟨rfl, ?_⟩⟩
  subst eA
  have hx6 : H6 a = some (.lst (ms.map V.int)) := st _ _ (sA _ _ hx) (by simpa using ne_fresh hx0 hx)
  clear st fr hx0 hdx ndx sA hx s5
  walk_at "go"
  -- the cells
  refine f_rng (fun k σ' H' => (∃ x3 x4 x5 x6 x7 x8 x9 x10 : Option V, σ' = [some (.ref sc), some (.ref a), some (.ref A.m), x3, x4, x5, x6, x7, x8, x9, x10]) ∧ H' = H6) ?_ ?_ ?_
  · exact ⟨⟨_, _, _, _, _, _, _, _, rfl⟩, rfl⟩
  · rintro k σ' H' hk ⟨⟨x3, x4, x5, x6, x7, x8, x9, x10, rfl⟩, rfl⟩
    have hk' : k < 70 := by simpa using hk
    have hv := vals_at k hk'
    have cs : k < 8 ∨ (8 ≤ k ∧ k < 24) ∨ (24 ≤ k ∧ k < 32) ∨ (32 ≤ k ∧ k < 56) ∨ (56 ≤ k ∧ k < 68) ∨ 68 ≤ k := by omega
    walk_at "go"
    rcases cs with c | c | c | c | c | c
    all_goals (repeat (first | walk_at "br" | walk_at "i"))
    all_goals (refine i_methIn hM.m rfl ?_)
    all_goals (walk_at "go")
    all_goals (refine ⟨A, _, .int (0 + (k : Int)), rfl, hM, .int _, fun i u e i0 i1 eu => ?_, fun z => ?_⟩)
    all_goals first
      | (have w : within (.int (0 + (k : Int))) 0 69 = true := by
          show (decide (0 ≤ 0 + (k : Int)) && decide (0 + (k : Int) ≤ 69)) = true
          rw [decide_eq_true (by omega), decide_eq_true (by omega)]
          rfl
         rw [w] at z
         cases z
         done)
      | skip
    all_goals (cases e)
    all_goals (have eu : (valsAt 2)[(0 + (k : Int)).toNat]? = some u := eu)
    all_goals (rw [show (0 + (k : Int)).toNat = k by omega, hv] at eu)
    all_goals first | rw [if_pos (by omega)] at eu | rw [if_neg (by omega)] at eu
    all_goals (cases eu)
    all_goals (repeat (first | walk_at "br" | walk_at "i"))
    all_goals first | exact ⟨⟨_, _, _, _, _, _, _, _, rfl⟩, rfl⟩ | (refine i_isiBool (.int 0) ?_; repeat (first | walk_at "br" | walk_at "i"))
    all_goals exact ⟨⟨_, _, _, _, _, _, _, _, rfl⟩, rfl⟩
  rintro σ' H' ⟨⟨x3, x4, x5, x6, x7, x8, x9, x10, rfl⟩, rfl⟩
  walk_at "go"
  -- the journals, the guards, the blocks
  refine f_rng (fun d σ' H'' => (∃ x3 x4 x5 x6 x7 x8 x9 x10 : Option V, σ' = [some (.ref sc), some (.ref a), some (.ref A.m), x3, x4, x5, x6, x7, x8, x9, x10]) ∧ Same H' H'') ?_ ?_ ?_
  · exact ⟨⟨_, _, _, _, _, _, _, _, rfl⟩, Same.refl _⟩
  · rintro d σ' H1 hd ⟨⟨x3, x4, x5, x6, x7, x8, x9, x10, rfl⟩, s⟩
    have hd' : d < 2 := by simpa using hd
    have M1 := hM.same s
    have dj0 := Dp.same s _ _ hj0
    have dj1 := Dp.same s _ _ hj1
    have nil : Sh 1 (.tuple []) := ⟨by decide +kernel, by decide +kernel⟩
    have nil2 : Sh 1 (.list []) := ⟨by decide +kernel, by decide +kernel⟩
    have zer : Sh 3 zero4 := ⟨by decide +kernel, by decide +kernel⟩
    -- behind the journal, for each device
    have cs : d = 0 ∨ d = 1 := by omega
    rcases cs with rfl | rfl
    all_goals (walk_at "go")
    all_goals (refine i_methIn M1.m rfl ?_)
    all_goals (walk_at "go")
    · refine ⟨A, _, .int (0 + ((0 : Nat) : Int)), rfl, M1, .int _, ?_, ?_, ?_⟩
      rotate_left
      · intro e
        cases e
      · intro e
        cases e
      intro _
      walk_at "go"
      intro p hp
      have s2 := same_new (o := .tup []) (Same.refl H1) hp
      refine i_neR (Dp.same s2 _ _ dj0) (.tup (sqT upd_same) .nil) nil (by decide) ?_
      have M2 := M1.same s2
      walk_at "go"
      refine i_fldIn M2.m Z.M.c Z.M.guards rfl ?_
      walk_at "go"
      refine i_ixLn (sqL M2.gs) (by decide) rfl ?_
      refine i_methIn M2.g0.g rfl ?_
      walk_at "go"
      refine ⟨A.g0, gs0, rfl, M2.g0, rfl, fun l H3 s3 hl => ?_⟩
      have M3 := M2.same s3
      walk_at "go"
      intro p4 hp4
      have n4 : l ≠ p4 := ne_fresh hp4 hl
      have s4 := same_new (o := .lst []) (Same.refl H3) hp4
      refine i_neR (.lst (sqL (upd_at n4 hl)) .nil) (.lst (sqL upd_same) .nil) nil2 (by decide) ?_
      have M4 := M3.same s4
      walk_at "go"
      refine i_fldIn M4.m Z.M.c Z.M.guards rfl ?_
      walk_at "go"
      refine i_ixLn (sqL M4.gs) (by decide) rfl ?_
      refine i_methIn M4.g0.g rfl ?_
      walk_at "go"
      refine ⟨A.g0, gs0, rfl, M4.g0, fun l5 H5 s5 _ hl5 => ?_⟩
      walk_at "go"
      intro p6 hp6
      have n6 : l5 ≠ p6 := ne_fresh hp6 hl5
      have s6 := same_new (o := .lst []) (Same.refl H5) hp6
      refine i_neR (.lst (sqL (upd_at n6 hl5)) .nil) (.lst (sqL upd_same) .nil) nil2 (by decide) ?_
      have s7 := Same.trans s (Same.trans s2 (Same.trans s3 (Same.trans s4 (Same.trans s5 s6))))
      revert s7
      generalize upd H5 p6 (.lst []) = H7
      intro s7
      walk_at "go"
      refine f_rng (fun j σ' H'' => (∃ x3 x5 x6 x7 x8 x9 x10 : Option V, σ' = [some (.ref sc), some (.ref a), some (.ref A.m), x3, some (.int (0 + ((0 : Nat) : Int))), x5, x6, x7, x8, x9, x10]) ∧ Same H' H'') ?_ ?_ ?_
      · exact ⟨⟨_, _, _, _, _, _, _, rfl⟩, s7⟩
      · rintro j σ' H8 hj ⟨⟨x3, x5, x6, x7, x8, x9, x10, rfl⟩, s8⟩
        have hj' : j < 8 := by simpa using hj
        have M8 := hM.same s8
        walk_at "go"
        refine i_methIn M8.m rfl ?_
        walk_at "go"
        refine ⟨A, _, .int (0 + ((0 : Nat) : Int)), .int (0 + (j : Int)), rfl, M8, .int _, .int _, ?_, ?_, ?_⟩
        rotate_left
        · intro i v e
          cases e
        rotate_left
        · intro i v _ _ _ _ ev
          have ev : (List.replicate 8 b0)[i.toNat]? = some v := ev
          have := List.eq_of_mem_replicate (List.mem_of_getElem? ev)
          subst this
          walk_at "go"
          intro p hp
          have s9 := same_new (o := .tup [.int 0, .int 0, .int 0, .int 0]) (Same.refl H8) hp
          refine i_neR (Dp.same (Same.trans s8 s9) _ _ hb0) (.tup (sqT upd_same) (DpAll.ints [0, 0, 0, 0])) zer (by decide) ?_
          walk_at "go"
          exact ⟨⟨_, _, _, _, _, _, _, rfl⟩, Same.trans s8 s9⟩
        · intro e
          have w : within (.int (0 + (j : Int))) 0 7 = true := by
            show (decide (0 ≤ 0 + (j : Int)) && decide (0 + (j : Int) ≤ 7)) = true
            rw [decide_eq_true (by omega), decide_eq_true (by omega)]
            rfl
          rw [w] at e
          cases e
      · rintro σ' H8 ⟨⟨x3, x5, x6, x7, x8, x9, x10, rfl⟩, s8⟩
        exact ⟨⟨_, _, _, _, _, _, _, _, rfl⟩, s8⟩
    · refine ⟨A, _, .int (0 + ((1 : Nat) : Int)), rfl, M1, .int _, ?_, ?_, ?_⟩
      · intro e
        cases e
      rotate_left
      · intro e
        cases e
      intro _
      walk_at "go"
      intro p hp
      have s2 := same_new (o := .tup []) (Same.refl H1) hp
      refine i_neR (Dp.same s2 _ _ dj1) (.tup (sqT upd_same) .nil) nil (by decide) ?_
      have M2 := M1.same s2
      walk_at "go"
      refine i_fldIn M2.m Z.M.c Z.M.guards rfl ?_
      walk_at "go"
      refine i_ixLn (sqL M2.gs) (by decide) rfl ?_
      refine i_methIn M2.g1.g rfl ?_
      walk_at "go"
      refine ⟨A.g1, gs0, rfl, M2.g1, rfl, fun l H3 s3 hl => ?_⟩
      have M3 := M2.same s3
      walk_at "go"
      intro p4 hp4
      have n4 : l ≠ p4 := ne_fresh hp4 hl
      have s4 := same_new (o := .lst []) (Same.refl H3) hp4
      refine i_neR (.lst (sqL (upd_at n4 hl)) .nil) (.lst (sqL upd_same) .nil) nil2 (by decide) ?_
      have M4 := M3.same s4
      walk_at "go"
      refine i_fldIn M4.m Z.M.c Z.M.guards rfl ?_
      walk_at "go"
      refine i_ixLn (sqL M4.gs) (by decide) rfl ?_
      refine i_methIn M4.g1.g rfl ?_
      walk_at "go"
      refine ⟨A.g1, gs0, rfl, M4.g1, fun l5 H5 s5 _ hl5 => ?_⟩
      walk_at "go"
      intro p6 hp6
      have n6 : l5 ≠ p6 := ne_fresh hp6 hl5
      have s6 := same_new (o := .lst []) (Same.refl H5) hp6
      refine i_neR (.lst (sqL (upd_at n6 hl5)) .nil) (.lst (sqL upd_same) .nil) nil2 (by decide) ?_
      have s7 := Same.trans s (Same.trans s2 (Same.trans s3 (Same.trans s4 (Same.trans s5 s6))))
      revert s7
      generalize upd H5 p6 (.lst []) = H7
      intro s7
      walk_at "go"
      refine f_rng (fun j σ' H'' => (∃ x3 x5 x6 x7 x8 x9 x10 : Option V, σ' = [some (.ref sc), some (.ref a), some (.ref A.m), x3, some (.int (0 + ((1 : Nat) : Int))), x5, x6, x7, x8, x9, x10]) ∧ Same H' H'') ?_ ?_ ?_
      · exact ⟨⟨_, _, _, _, _, _, _, rfl⟩, s7⟩
      · rintro j σ' H8 hj ⟨⟨x3, x5, x6, x7, x8, x9, x10, rfl⟩, s8⟩
        have hj' : j < 8 := by simpa using hj
        have M8 := hM.same s8
        walk_at "go"
        refine i_methIn M8.m rfl ?_
        walk_at "go"
        refine ⟨A, _, .int (0 + ((1 : Nat) : Int)), .int (0 + (j : Int)), rfl, M8, .int _, .int _, ?_, ?_, ?_⟩
        · intro i v e
          cases e
        · intro i v _ _ _ _ ev
          have ev : (List.replicate 8 b1)[i.toNat]? = some v := ev
          have := List.eq_of_mem_replicate (List.mem_of_getElem? ev)
          subst this
          walk_at "go"
          intro p hp
          have s9 := same_new (o := .tup [.int 0, .int 0, .int 0, .int 0]) (Same.refl H8) hp
          refine i_neR (Dp.same (Same.trans s8 s9) _ _ hb1) (.tup (sqT upd_same) (DpAll.ints [0, 0, 0, 0])) zer (by decide) ?_
          walk_at "go"
          exact ⟨⟨_, _, _, _, _, _, _, rfl⟩, Same.trans s8 s9⟩
        · intro e
          have w : within (.int (0 + (j : Int))) 0 7 = true := by
            show (decide (0 ≤ 0 + (j : Int)) && decide (0 + (j : Int) ≤ 7)) = true
            rw [decide_eq_true (by omega), decide_eq_true (by omega)]
            rfl
          rw [w] at e
          cases e
      · rintro σ' H8 ⟨⟨x3, x5, x6, x7, x8, x9, x10, rfl⟩, s8⟩
        exact ⟨⟨_, _, _, _, _, _, _, _, rfl⟩, s8⟩
  rintro σ' H1 ⟨⟨x3, x4, x5, x6, x7, x8, x9, x10, rfl⟩, s⟩
  have hxa := s _ _ hx6
  walk_at "go"
  rw [List.length_map]
  have hmn : (if (ms.length : Int) < 20 then (ms.length : Int) else 20) ≤ 20 ∧ 0 ≤ (if (ms.length : Int) < 20 then (ms.length : Int) else 20) := by
    split <;> omega
  revert hmn
  generalize (if (ms.length : Int) < 20 then (ms.length : Int) else 20) = mn
  rintro ⟨hmn1, hmn0⟩
  walk_at "go"
  -- what is refused
  refine f_rng (fun d σ' H'' => (∃ x3 x4 x5 x6 x7 x8 x9 x10 : Option V, σ' = [some (.ref sc), some (.ref a), some (.ref A.m), x3, x4, x5, x6, x7, x8, x9, x10]) ∧ Same H' H'') ?_ ?_ ?_
  · exact ⟨⟨_, _, _, _, _, _, _, _, rfl⟩, s⟩
  · rintro k σ' H2 hk ⟨⟨x3, x4, x5, x6, x7, x8, x9, x10, rfl⟩, s2⟩
    have k20 : (0 : Int) ≤ 0 + (k : Int) := by omega
    have hx2 := s2 _ _ hx6
    have M2 := hM.same s2
    -- a refusal, compared
    walk_at "go"
    refine ⟨a, ms, _, rfl, rfl, hx2, hm, k20, fun v1 v10 v11 => ?_⟩
    walk_at "go"
    intro p1 hp1
    have s3 := same_new (o := .lst [.int 70, .int (-1), .int (70 + v1), .non]) (Same.refl H2) hp1
    walk_at "go"
    refine ⟨a, ms, _, rfl, rfl, s3 _ _ hx2, hm, k20, fun v2 v20 v21 => ?_⟩
    walk_at "go"
    obtain ⟨wx, wd, hwx, hwd, hwi⟩ : ∃ (x : V) (d : PyData), ([V.int 70, .int (-1), .int (70 + v1), .non] : List V)[(v2 % 4).toNat]? = some x ∧ (∀ H, Dp K H x d) ∧ within d 0 69 = false := by
      have : v2 % 4 = 0 ∨ v2 % 4 = 1 ∨ v2 % 4 = 2 ∨ v2 % 4 = 3 := by omega
      rcases this with e | e | e | e <;> rw [e]
      · exact ⟨_, .int 70, rfl, fun _ => .int _, by decide⟩
      · exact ⟨_, .int (-1), rfl, fun _ => .int _, by decide⟩
      · refine ⟨_, .int (70 + v1), rfl, fun _ => .int _, ?_⟩
        show (decide (0 ≤ 70 + v1) && decide (70 + v1 ≤ 69)) = false
        rw [decide_eq_false (show ¬ 70 + v1 ≤ 69 by omega), Bool.and_false]
      · exact ⟨_, .none, rfl, fun _ => .non, rfl⟩
    refine i_ixLn (sqL upd_same) (Int.emod_nonneg _ (by decide)) hwx ?_
    have M3 := M2.same s3
    walk_at "go"
    refine ⟨A, _, wd, .int 0, rfl, M3, hwd _, .int _, .inl ⟨rfl, hwi⟩, fun v H4 s4 hv => ?_⟩
    walk_at "go"
    intro p5 hp5
    have s5 := same_new (o := .lst [.str "refused", .bl true]) (Same.refl H4) hp5
    refine i_neR (Dp.same s5 _ _ hv) (.lst (sqL upd_same) (.cons (.str _) (.cons (.bl _) .nil))) sh_ref (by decide) ?_
    have s6 := Same.trans s2 (Same.trans s3 (Same.trans s4 s5))
    revert s6
    generalize upd H4 p5 (.lst [.str "refused", .bl true]) = H6'
    intro s6
    have hx6' := s6 _ _ hx6
    walk_at "go"
    refine ⟨a, ms, _, rfl, rfl, hx6', hm, k20, fun u1 u10 u11 => ?_⟩
    walk_at "go"
    intro p7 hp7
    have s7 := same_new (o := .lst [.int 2, .int (-1), .int (2 + u1)]) (Same.refl H6') hp7
    walk_at "go"
    refine ⟨a, ms, _, rfl, rfl, s7 _ _ hx6', hm, k20, fun u2 u20 u21 => ?_⟩
    walk_at "go"
    obtain ⟨ox, od, hox, hod, hoi⟩ : ∃ (x : V) (d : PyData), ([V.int 2, .int (-1), .int (2 + u1)] : List V)[(u2 % 3).toNat]? = some x ∧ (∀ H, Dp K H x d) ∧ within d 0 1 = false := by
      have : u2 % 3 = 0 ∨ u2 % 3 = 1 ∨ u2 % 3 = 2 := by omega
      rcases this with e | e | e <;> rw [e]
      · exact ⟨_, .int 2, rfl, fun _ => .int _, by decide⟩
      · exact ⟨_, .int (-1), rfl, fun _ => .int _, by decide⟩
      · refine ⟨_, .int (2 + u1), rfl, fun _ => .int _, ?_⟩
        show (decide (0 ≤ 2 + u1) && decide (2 + u1 ≤ 1)) = false
        rw [decide_eq_false (show ¬ 2 + u1 ≤ 1 by omega), Bool.and_false]
    refine i_ixLn (sqL upd_same) (Int.emod_nonneg _ (by decide)) hox ?_
    have M7 := (hM.same s6).same s7
    walk_at "go"
    refine ⟨A, _, od, .int 0, rfl, M7, hod _, .int _, .inr (.inl ⟨rfl, hoi⟩), fun v H8 s8 hv => ?_⟩
    walk_at "go"
    intro p9 hp9
    have s9 := same_new (o := .lst [.str "refused", .bl true]) (Same.refl H8) hp9
    refine i_neR (Dp.same s9 _ _ hv) (.lst (sqL upd_same) (.cons (.str _) (.cons (.bl _) .nil))) sh_ref (by decide) ?_
    have s10 := Same.trans s6 (Same.trans s7 (Same.trans s8 s9))
    revert s10
    generalize upd H8 p9 (.lst [.str "refused", .bl true]) = H10
    intro s10
    walk_at "go"
    refine ⟨A, _, od, .int 0, rfl, hM.same s10, hod _, .int _, .inr (.inr ⟨rfl, by rw [hoi]; rfl⟩), fun v H11 s11 hv => ?_⟩
    walk_at "go"
    intro p12 hp12
    have s12 := same_new (o := .lst [.str "refused", .bl true]) (Same.refl H11) hp12
    refine i_neR (Dp.same s12 _ _ hv) (.lst (sqL upd_same) (.cons (.str _) (.cons (.bl _) .nil))) sh_ref (by decide) ?_
    have s13 := Same.trans s10 (Same.trans s11 s12)
    revert s13
    generalize upd H11 p12 (.lst [.str "refused", .bl true]) = H13
    intro s13
    walk_at "go"
    intro p14 hp14
    have s14 := same_new (o := .lst [.int 8, .int (-1), .int (9 + (0 + (k : Int)))]) (Same.refl H13) hp14
    walk_at "go"
    obtain ⟨bx, bd, hbx, hbd, hbi⟩ : ∃ (x : V) (d : PyData), ([V.int 8, .int (-1), .int (9 + (0 + (k : Int)))] : List V)[((0 + (k : Int)) % 3).toNat]? = some x ∧ (∀ H, Dp K H x d) ∧ within d 0 7 = false := by
      have : (0 + (k : Int)) % 3 = 0 ∨ (0 + (k : Int)) % 3 = 1 ∨ (0 + (k : Int)) % 3 = 2 := by omega
      rcases this with e | e | e <;> rw [e]
      · exact ⟨_, .int 8, rfl, fun _ => .int _, by decide⟩
      · exact ⟨_, .int (-1), rfl, fun _ => .int _, by decide⟩
      · refine ⟨_, .int (9 + (0 + (k : Int))), rfl, fun _ => .int _, ?_⟩
        show (decide (0 ≤ 9 + (0 + (k : Int))) && decide (9 + (0 + (k : Int)) ≤ 7)) = false
        rw [decide_eq_false (show ¬ 9 + (0 + (k : Int)) ≤ 7 by omega), Bool.and_false]
    refine i_ixLn (sqL upd_same) (Int.emod_nonneg _ (by decide)) hbx ?_
    walk_at "go"
    refine ⟨A, _, .int ((0 + (k : Int)) % 2), bd, rfl, (hM.same s13).same s14, .int _, hbd _, .inr (.inr ⟨rfl, by rw [hbi, Bool.and_false]⟩), fun v H15 s15 hv => ?_⟩
    walk_at "go"
    intro p16 hp16
    have s16 := same_new (o := .lst [.str "refused", .bl true]) (Same.refl H15) hp16
    refine i_neR (Dp.same s16 _ _ hv) (.lst (sqL upd_same) (.cons (.str _) (.cons (.bl _) .nil))) sh_ref (by decide) ?_
    walk_at "go"
    exact ⟨⟨_, _, _, _, _, _, _, _, rfl⟩, Same.trans s13 (Same.trans s14 (Same.trans s15 s16))⟩
  · rintro σ' H2 ⟨⟨x3, x4, x5, x6, x7, x8, x9, x10, rfl⟩, s2⟩
    have M2 := hM.same s2
    walk_at "go"
    refine i_fldIn M2.m Z.M.c Z.M.count rfl ?_
    walk_at "go"
    refine i_methIn M2.m rfl ?_
    walk_at "go"
    refine ⟨A, _, rfl, M2, fun l H3 s3 _ hl => ?_⟩
    walk_at "go"
    intro p hp
    have n : l ≠ p := ne_fresh hp hl
    refine i_eqR (d := .list []) (n := 1) (.lst (sqL (upd_at n hl)) .nil) (.lst (sqL upd_same) .nil) ⟨by decide +kernel, by decide +kernel⟩ (by decide) ?_
    exact q _
def top (i : Nat) : Stmt := PySem.Challenge.pw_ringbound_k01_cells.main.body.getD i (.Pass ⟨0, 0, 0, 0⟩)
abbrev s_frame_cell : Stmt := top 21
abbrev s_doorbell : Stmt := top 22
abbrev s_reset : Stmt := top 23
abbrev s_ready : Stmt := top 24
abbrev s_interrupt : Stmt := top 25
abbrev s_table_word : Stmt := top 26
abbrev s_acknowledge : Stmt := top 27
abbrev s_law_listed : Stmt := top 35
abbrev s_law_tape : Stmt := top 33
abbrev s_first_values : Stmt := top 30
abbrev s_Guard_init : Stmt := inClass (top 11) 0
abbrev s_Memory_init : Stmt := inClass (top 31) 0
abbrev s_is_within : Stmt := top 9
abbrev s_Memory_check_cell : Stmt := inClass (top 31) 3
abbrev s_Memory_peek : Stmt := inClass (top 31) 11
abbrev s_Memory_check_device : Stmt := inClass (top 31) 12
abbrev s_Memory_journal : Stmt := inClass (top 31) 14
abbrev s_Guard_entries : Stmt := inClass (top 11) 4
abbrev s_Guard_queue : Stmt := inClass (top 11) 5
abbrev s_Memory_check_block : Stmt := inClass (top 31) 4
abbrev s_Memory_block : Stmt := inClass (top 31) 13
abbrev s_law_at : Stmt := top 34
abbrev s_law_told : Stmt := top 36
abbrev s_Memory_log : Stmt := inClass (top 31) 15
abbrev s_law : Stmt := top 37
/-- what the top has left of the names that the walks ask -/
structure Tx (K : PySem.W.Frag) (mg : Str → Option Value) : Prop where
  b_abs : mg "abs" = none
  b_bool : mg "bool" = none
  b_int : mg "int" = none
  b_isinstance : mg "isinstance" = none
  b_len : mg "len" = none
  b_list : mg "list" = none
  b_min : mg "min" = none
  b_range : mg "range" = none
  b_sorted : mg "sorted" = none
  c_ALL_CELLS : ∃ t, mg "ALL_CELLS" = some (.int 70 t)
  c_BLOCKS : ∃ t, mg "BLOCKS" = some (.int 8 t)
  c_CELLS : ∃ t, mg "CELLS" = some (.int 4 t)
  c_DEVICES : ∃ t, mg "DEVICES" = some (.int 2 t)
  c_FIRST_ACKNOWLEDGE : ∃ t, mg "FIRST_ACKNOWLEDGE" = some (.int 68 t)
  c_FIRST_REGISTER : ∃ t, mg "FIRST_REGISTER" = some (.int 48 t)
  c_FIRST_WORD : ∃ t, mg "FIRST_WORD" = some (.int 56 t)
  c_FRAMES : ∃ t, mg "FRAMES" = some (.int 6 t)
  c_PAGES : ∃ t, mg "PAGES" = some (.int 6 t)
  c_REGISTERS : ∃ t, mg "REGISTERS" = some (.int 4 t)
  c_RING_FRAMES : ∃ t, mg "RING_FRAMES" = some (.int 2 t)
  cl_Guard : Cls K (He.ga K "Guard")
  cl_Memory : Cls K (He.ga K "Memory")
  e_NotValid : ExcC K (He.ga K "NotValid")
  g_Guard : mg "Guard" = some (.ref (He.ga K "Guard"))
  g_Memory : mg "Memory" = some (.ref (He.ga K "Memory"))
  g_NotValid : mg "NotValid" = some (.ref (He.ga K "NotValid"))
  g_RingError : mg "RingError" = some (.ref (He.ga K "RingError"))
  g__law_at : mg "_law_at" = some (.ref (He.ga K "_law_at"))
  g__law_listed : mg "_law_listed" = some (.ref (He.ga K "_law_listed"))
  g__law_tape : mg "_law_tape" = some (.ref (He.ga K "_law_tape"))
  g__law_told : mg "_law_told" = some (.ref (He.ga K "_law_told"))
  g_acknowledge : mg "acknowledge" = some (.ref (He.ga K "acknowledge"))
  g_doorbell : mg "doorbell" = some (.ref (He.ga K "doorbell"))
  g_first_values : mg "first_values" = some (.ref (He.ga K "first_values"))
  g_frame_cell : mg "frame_cell" = some (.ref (He.ga K "frame_cell"))
  g_interrupt : mg "interrupt" = some (.ref (He.ga K "interrupt"))
  g_is_within : mg "is_within" = some (.ref (He.ga K "is_within"))
  g_ready : mg "ready" = some (.ref (He.ga K "ready"))
  g_reset : mg "reset" = some (.ref (He.ga K "reset"))
  g_table_word : mg "table_word" = some (.ref (He.ga K "table_word"))
  m_Guard_entries : Meth K (He.ga K "Guard") "entries" (He.fAd K ("Guard", some "entries"))
  m_Guard_queue : Meth K (He.ga K "Guard") "queue" (He.fAd K ("Guard", some "queue"))
  m_Memory_block : Meth K (He.ga K "Memory") "block" (He.fAd K ("Memory", some "block"))
  m_Memory_check_block : Meth K (He.ga K "Memory") "check_block" (He.fAd K ("Memory", some "check_block"))
  m_Memory_check_cell : Meth K (He.ga K "Memory") "check_cell" (He.fAd K ("Memory", some "check_cell"))
  m_Memory_check_device : Meth K (He.ga K "Memory") "check_device" (He.fAd K ("Memory", some "check_device"))
  m_Memory_journal : Meth K (He.ga K "Memory") "journal" (He.fAd K ("Memory", some "journal"))
  m_Memory_log : Meth K (He.ga K "Memory") "log" (He.fAd K ("Memory", some "log"))
  m_Memory_peek : Meth K (He.ga K "Memory") "peek" (He.fAd K ("Memory", some "peek"))
  mk_Guard : Mk K (He.ga K "Guard") (He.fAd K ("Guard", some "__init__"))
  mk_Memory : Mk K (He.ga K "Memory") (He.fAd K ("Memory", some "__init__"))
  x_NotValid : XOk K mg "NotValid"
section
variable {P : Program} {w : World} {K : PySem.W.Frag} {mg : Str → Option Value} {base : Heap}
theorem sc_frame_cell : FnScope N_frame_cell ["device", "frame", "index"] (defScope s_frame_cell) := ⟨rfl, rfl, rfl, by decide +kernel, rfl, by decide +kernel, by decide +kernel⟩
theorem ok_frame_cell (T : Tx K mg) (hF : ∃ fd, FunD K "frame_cell" "frame_cell" (defArgs s_frame_cell) (defBody s_frame_cell) (defScope s_frame_cell) [] [] (He.fAd K ("frame_cell", none)) fd)  : Okd P w K mg base 1 (He.fAd K ("frame_cell", none)) ["device", "frame", "index"] (sp_frame_cell K) := by
  refine Okd.of hF sc_frame_cell (fun vs H Q E h => match vs, h with | [_, _, _], _ => rfl) (fun _ _ _ _ _ _ us hl => match us, hl with | [_, _, _], _ => rfl) (t := t_frame_cell K) (fun cdv A outer s H E hr => ?_) (fun vs H Q E h => match vs, h with | [a0, a1, a2], h => pure_frame_cell h)
  have nd := sc_frame_cell.nd
  exact (pss_one (ps_ret (pe_op op_addA (pe_op op_addA (pe_op op_mulA (pe_op op_mulA (pe_gint rfl T.c_FRAMES) (pe_gint rfl T.c_CELLS)) (pv 0)) (pe_op op_mulA (pe_gint rfl T.c_CELLS) (pv 1))) (pv 2))))
theorem sc_doorbell : FnScope N_doorbell ["device"] (defScope s_doorbell) := ⟨rfl, rfl, rfl, by decide +kernel, rfl, by decide +kernel, by decide +kernel⟩
theorem ok_doorbell (T : Tx K mg) (hF : ∃ fd, FunD K "doorbell" "doorbell" (defArgs s_doorbell) (defBody s_doorbell) (defScope s_doorbell) [] [] (He.fAd K ("doorbell", none)) fd)  : Okd P w K mg base 1 (He.fAd K ("doorbell", none)) ["device"] (sp_doorbell K) := by
  refine Okd.of hF sc_doorbell (fun vs H Q E h => match vs, h with | [_], _ => rfl) (fun _ _ _ _ _ _ us hl => match us, hl with | [_], _ => rfl) (t := t_doorbell K) (fun cdv A outer s H E hr => ?_) (fun vs H Q E h => match vs, h with | [a0], h => pure_doorbell h)
  have nd := sc_doorbell.nd
  exact (pss_one (ps_ret (pe_op op_addA (pe_gint rfl T.c_FIRST_REGISTER) (pe_op op_mulA (pe_gint rfl T.c_REGISTERS) (pv 0)))))
theorem sc_reset : FnScope N_reset ["device"] (defScope s_reset) := ⟨rfl, rfl, rfl, by decide +kernel, rfl, by decide +kernel, by decide +kernel⟩
theorem ok_reset (T : Tx K mg) (hF : ∃ fd, FunD K "reset" "reset" (defArgs s_reset) (defBody s_reset) (defScope s_reset) [] [] (He.fAd K ("reset", none)) fd) (h_doorbell : Okd P w K mg base 1 (He.fAd K ("doorbell", none)) ["device"] (sp_doorbell K)) : Okd P w K mg base 2 (He.fAd K ("reset", none)) ["device"] (sp_reset K) := by
  obtain ⟨fd_doorbell, G_doorbell, b_doorbell, kp_doorbell, _⟩ := h_doorbell
  refine Okd.of hF sc_reset (fun vs H Q E h => match vs, h with | [_], _ => rfl) (fun _ _ _ _ _ _ us hl => match us, hl with | [_], _ => rfl) (t := t_reset K) (fun cdv A outer s H E hr => ?_) (fun vs H Q E h => match vs, h with | [a0], h => pure_reset h)
  have nd := sc_reset.nd
  exact (pss_one (ps_ret (pe_op op_addA (pe_call G_doorbell (hr.mono (by decide)) rfl T.g_doorbell kp_doorbell b_doorbell .nil passL (pa_cons (pv 0) pa_nil)) pe_int)))
theorem sc_ready : FnScope N_ready ["device"] (defScope s_ready) := ⟨rfl, rfl, rfl, by decide +kernel, rfl, by decide +kernel, by decide +kernel⟩
theorem ok_ready (T : Tx K mg) (hF : ∃ fd, FunD K "ready" "ready" (defArgs s_ready) (defBody s_ready) (defScope s_ready) [] [] (He.fAd K ("ready", none)) fd) (h_doorbell : Okd P w K mg base 1 (He.fAd K ("doorbell", none)) ["device"] (sp_doorbell K)) : Okd P w K mg base 2 (He.fAd K ("ready", none)) ["device"] (sp_ready K) := by
  obtain ⟨fd_doorbell, G_doorbell, b_doorbell, kp_doorbell, _⟩ := h_doorbell
  refine Okd.of hF sc_ready (fun vs H Q E h => match vs, h with | [_], _ => rfl) (fun _ _ _ _ _ _ us hl => match us, hl with | [_], _ => rfl) (t := t_ready K) (fun cdv A outer s H E hr => ?_) (fun vs H Q E h => match vs, h with | [a0], h => pure_ready h)
  have nd := sc_ready.nd
  exact (pss_one (ps_ret (pe_op op_addA (pe_call G_doorbell (hr.mono (by decide)) rfl T.g_doorbell kp_doorbell b_doorbell .nil passL (pa_cons (pv 0) pa_nil)) pe_int)))
theorem sc_interrupt : FnScope N_interrupt ["device"] (defScope s_interrupt) := ⟨rfl, rfl, rfl, by decide +kernel, rfl, by decide +kernel, by decide +kernel⟩
theorem ok_interrupt (T : Tx K mg) (hF : ∃ fd, FunD K "interrupt" "interrupt" (defArgs s_interrupt) (defBody s_interrupt) (defScope s_interrupt) [] [] (He.fAd K ("interrupt", none)) fd) (h_doorbell : Okd P w K mg base 1 (He.fAd K ("doorbell", none)) ["device"] (sp_doorbell K)) : Okd P w K mg base 2 (He.fAd K ("interrupt", none)) ["device"] (sp_interrupt K) := by
  obtain ⟨fd_doorbell, G_doorbell, b_doorbell, kp_doorbell, _⟩ := h_doorbell
  refine Okd.of hF sc_interrupt (fun vs H Q E h => match vs, h with | [_], _ => rfl) (fun _ _ _ _ _ _ us hl => match us, hl with | [_], _ => rfl) (t := t_interrupt K) (fun cdv A outer s H E hr => ?_) (fun vs H Q E h => match vs, h with | [a0], h => pure_interrupt h)
  have nd := sc_interrupt.nd
  exact (pss_one (ps_ret (pe_op op_addA (pe_call G_doorbell (hr.mono (by decide)) rfl T.g_doorbell kp_doorbell b_doorbell .nil passL (pa_cons (pv 0) pa_nil)) pe_int)))
theorem sc_table_word : FnScope N_table_word ["device", "page"] (defScope s_table_word) := ⟨rfl, rfl, rfl, by decide +kernel, rfl, by decide +kernel, by decide +kernel⟩
theorem ok_table_word (T : Tx K mg) (hF : ∃ fd, FunD K "table_word" "table_word" (defArgs s_table_word) (defBody s_table_word) (defScope s_table_word) [] [] (He.fAd K ("table_word", none)) fd)  : Okd P w K mg base 1 (He.fAd K ("table_word", none)) ["device", "page"] (sp_table_word K) := by
  refine Okd.of hF sc_table_word (fun vs H Q E h => match vs, h with | [_, _], _ => rfl) (fun _ _ _ _ _ _ us hl => match us, hl with | [_, _], _ => rfl) (t := t_table_word K) (fun cdv A outer s H E hr => ?_) (fun vs H Q E h => match vs, h with | [a0, a1], h => pure_table_word h)
  have nd := sc_table_word.nd
  exact (pss_one (ps_ret (pe_op op_addA (pe_op op_addA (pe_gint rfl T.c_FIRST_WORD) (pe_op op_mulA (pe_gint rfl T.c_PAGES) (pv 0))) (pv 1))))
theorem sc_acknowledge : FnScope N_acknowledge ["device"] (defScope s_acknowledge) := ⟨rfl, rfl, rfl, by decide +kernel, rfl, by decide +kernel, by decide +kernel⟩
theorem ok_acknowledge (T : Tx K mg) (hF : ∃ fd, FunD K "acknowledge" "acknowledge" (defArgs s_acknowledge) (defBody s_acknowledge) (defScope s_acknowledge) [] [] (He.fAd K ("acknowledge", none)) fd)  : Okd P w K mg base 1 (He.fAd K ("acknowledge", none)) ["device"] (sp_acknowledge K) := by
  refine Okd.of hF sc_acknowledge (fun vs H Q E h => match vs, h with | [_], _ => rfl) (fun _ _ _ _ _ _ us hl => match us, hl with | [_], _ => rfl) (t := t_acknowledge K) (fun cdv A outer s H E hr => ?_) (fun vs H Q E h => match vs, h with | [a0], h => pure_acknowledge h)
  have nd := sc_acknowledge.nd
  exact (pss_one (ps_ret (pe_op op_addA (pe_gint rfl T.c_FIRST_ACKNOWLEDGE) (pv 0))))
theorem sc_law_listed : FnScope N_law_listed [] (defScope s_law_listed) := ⟨rfl, rfl, rfl, by decide +kernel, rfl, by decide +kernel, by decide +kernel⟩
theorem ok_law_listed (T : Tx K mg) (hF : ∃ fd, FunD K "_law_listed" "_law_listed" (defArgs s_law_listed) (defBody s_law_listed) (defScope s_law_listed) [] [] (He.fAd K ("_law_listed", none)) fd) (h_frame_cell : Okd P w K mg base 1 (He.fAd K ("frame_cell", none)) ["device", "frame", "index"] (sp_frame_cell K)) (h_doorbell : Okd P w K mg base 1 (He.fAd K ("doorbell", none)) ["device"] (sp_doorbell K)) (h_reset : Okd P w K mg base 2 (He.fAd K ("reset", none)) ["device"] (sp_reset K)) (h_ready : Okd P w K mg base 2 (He.fAd K ("ready", none)) ["device"] (sp_ready K)) (h_interrupt : Okd P w K mg base 2 (He.fAd K ("interrupt", none)) ["device"] (sp_interrupt K)) (h_table_word : Okd P w K mg base 1 (He.fAd K ("table_word", none)) ["device", "page"] (sp_table_word K)) (h_acknowledge : Okd P w K mg base 1 (He.fAd K ("acknowledge", none)) ["device"] (sp_acknowledge K)) : Okd P w K mg base 3 (He.fAd K ("_law_listed", none)) [] (sp_law_listed K) := by
  obtain ⟨fd_frame_cell, G_frame_cell, b_frame_cell, kp_frame_cell, _⟩ := h_frame_cell
  obtain ⟨fd_doorbell, G_doorbell, b_doorbell, kp_doorbell, _⟩ := h_doorbell
  obtain ⟨fd_reset, G_reset, b_reset, kp_reset, _⟩ := h_reset
  obtain ⟨fd_ready, G_ready, b_ready, kp_ready, _⟩ := h_ready
  obtain ⟨fd_interrupt, G_interrupt, b_interrupt, kp_interrupt, _⟩ := h_interrupt
  obtain ⟨fd_table_word, G_table_word, b_table_word, kp_table_word, _⟩ := h_table_word
  obtain ⟨fd_acknowledge, G_acknowledge, b_acknowledge, kp_acknowledge, _⟩ := h_acknowledge
  refine Okd.of hF sc_law_listed (fun vs H Q E h => match vs, h with | [], _ => rfl) (fun _ _ _ _ _ _ us hl => match us, hl with | [], _ => rfl) (t := t_law_listed K) (fun cdv A outer s H E hr => ?_) (fun vs H Q E h => match vs, h with | [], h => pure_law_listed h)
  have nd := sc_law_listed.nd
  exact (pss_cons (ps_set (i := 0) nd rfl (Or.inl rfl) (pe_lst pa_nil))
  (pss_cons (ps_for (passes_of rfl) rfl (pi_range1 rfl T.b_range (pa_cons pe_int pa_nil)) (pg_name (i := 1) nd rfl (Or.inr rfl)) (pss_one (ps_for (passes_of rfl) rfl (pi_range1 rfl T.b_range (pa_cons pe_int pa_nil)) (pg_name (i := 2) nd rfl (Or.inr rfl)) (pss_one (ps_set (i := 0) nd rfl (Or.inl rfl) (pe_op op_addA (pv 0) (pe_lc (own := [("_law_index", 4)]) (g := gName 4) (tt := tYes) (te := tCall (sp_frame_cell K) [] E0 (tCons (tVar 1) (tCons (tVar 2) (tCons (tVar 4) (tNil))))) rfl nd (pi_range1 rfl T.b_range (pa_cons pe_int pa_nil)) (blkOk_by (own := [("_law_index", 4)]) (N := N_law_listed) (sc := defScope s_law_listed) (by decide +kernel)) (fun _ _ _ _ _ => (pg_name (i := 4) nd rfl (Or.inl rfl))) (fun _ _ _ _ _ => pts_nil) (fun _ _ _ _ _ => (pe_call G_frame_cell (hr.mono (by decide)) rfl T.g_frame_cell kp_frame_cell b_frame_cell .nil passL (pa_cons (pv 1) (pa_cons (pv 2) (pa_cons (pv 4) pa_nil))))))))))))
  (pss_cons (ps_for (passes_of rfl) rfl (pi_range1 rfl T.b_range (pa_cons pe_int pa_nil)) (pg_name (i := 1) nd rfl (Or.inr rfl)) (pss_one (ps_set (i := 0) nd rfl (Or.inl rfl) (pe_op op_addA (pv 0) (pe_lst (pa_cons (pe_call G_doorbell (hr.mono (by decide)) rfl T.g_doorbell kp_doorbell b_doorbell .nil passL (pa_cons (pv 1) pa_nil)) (pa_cons (pe_call G_reset (hr.mono (by decide)) rfl T.g_reset kp_reset b_reset .nil passL (pa_cons (pv 1) pa_nil)) (pa_cons (pe_call G_ready (hr.mono (by decide)) rfl T.g_ready kp_ready b_ready .nil passL (pa_cons (pv 1) pa_nil)) (pa_cons (pe_call G_interrupt (hr.mono (by decide)) rfl T.g_interrupt kp_interrupt b_interrupt .nil passL (pa_cons (pv 1) pa_nil)) pa_nil)))))))))
  (pss_cons (ps_for (passes_of rfl) rfl (pi_range1 rfl T.b_range (pa_cons pe_int pa_nil)) (pg_name (i := 1) nd rfl (Or.inr rfl)) (pss_one (ps_set (i := 0) nd rfl (Or.inl rfl) (pe_op op_addA (pv 0) (pe_lc (own := [("_law_page", 3)]) (g := gName 3) (tt := tYes) (te := tCall (sp_table_word K) [] E0 (tCons (tVar 1) (tCons (tVar 3) (tNil)))) rfl nd (pi_range1 rfl T.b_range (pa_cons pe_int pa_nil)) (blkOk_by (own := [("_law_page", 3)]) (N := N_law_listed) (sc := defScope s_law_listed) (by decide +kernel)) (fun _ _ _ _ _ => (pg_name (i := 3) nd rfl (Or.inl rfl))) (fun _ _ _ _ _ => pts_nil) (fun _ _ _ _ _ => (pe_call G_table_word (hr.mono (by decide)) rfl T.g_table_word kp_table_word b_table_word .nil passL (pa_cons (pv 1) (pa_cons (pv 3) pa_nil)))))))))
  (pss_one (ps_ret (pe_op op_addA (pv 0) (pe_lst (pa_cons (pe_call G_acknowledge (hr.mono (by decide)) rfl T.g_acknowledge kp_acknowledge b_acknowledge .nil passL (pa_cons pe_int pa_nil)) (pa_cons (pe_call G_acknowledge (hr.mono (by decide)) rfl T.g_acknowledge kp_acknowledge b_acknowledge .nil passL (pa_cons pe_int pa_nil)) pa_nil))))))))))
theorem sc_law_tape : FnScope N_law_tape ["_law_script"] (defScope s_law_tape) := ⟨rfl, rfl, rfl, by decide +kernel, rfl, by decide +kernel, by decide +kernel⟩
theorem ok_law_tape (T : Tx K mg) (hF : ∃ fd, FunD K "_law_tape" "_law_tape" (defArgs s_law_tape) (defBody s_law_tape) (defScope s_law_tape) [] [] (He.fAd K ("_law_tape", none)) fd)  : Okd P w K mg base 1 (He.fAd K ("_law_tape", none)) ["_law_script"] (sp_law_tape K) := by
  refine Okd.of hF sc_law_tape (fun vs H Q E h => match vs, h with | [_], _ => rfl) (fun _ _ _ _ _ _ us hl => match us, hl with | [_], _ => rfl) (t := t_law_tape K) (fun cdv A outer s H E hr => ?_) (fun vs H Q E h => match vs, h with | [a0], h => pure_law_tape h)
  have nd := sc_law_tape.nd
  exact (pss_cons (ps_set (i := 1) nd rfl (Or.inl rfl) (pe_lst pa_nil))
  (pss_cons (ps_for (passes_of rfl) rfl (pi_range1 rfl T.b_range (pa_cons (pe_callB cr_len (by rfl) T.b_len (by decide +kernel) (pa_cons (pv 0) pa_nil)) pa_nil)) (pg_name (i := 2) nd rfl (Or.inl rfl)) (pss_cons (ps_set (i := 3) nd rfl (Or.inl rfl) (pe_callB cr_abs (by rfl) T.b_abs (by decide +kernel) (pa_cons (pe_callTy cr_int (by rfl) T.b_int (by decide +kernel) (pa_cons (pe_ix ix_seq (pv 0) (pv 2) (fun _ _ => rfl)) pa_nil)) pa_nil)))
  (pss_one (ps_if (pt_cmpR op_geI (pv 3) (pe_op op_powI pe_int pe_int) (nomark _)) (pss_one (ps_for (passes_of rfl) rfl (pi_range1 rfl T.b_range (pa_cons pe_int pa_nil)) (pg_name (i := 4) nd rfl (Or.inl rfl)) (pss_one (ps_if (pt_cmpR op_gtI (pv 3) pe_int (nomark _)) (pss_cons (ps_expr (pe_bm PySem.F.plainAttrs_list PySem.F.slot_list_append PySem.F.type_list_append mt_append (pv 1) (pa_cons (pe_op op_modI (pv 3) pe_int) pa_nil)))
  (pss_one (ps_set (i := 3) nd rfl (Or.inl rfl) (pe_op op_divN (pv 3) pe_int)))) pss_nil)))) (pss_one (ps_for (passes_of rfl) rfl (pi_range1 rfl T.b_range (pa_cons pe_int pa_nil)) (pg_name (i := 4) nd rfl (Or.inl rfl)) (pss_cons (ps_set (i := 3) nd rfl (Or.inl rfl) (pe_op op_modI (pe_op op_addA (pe_op op_addA (pe_op op_mulA (pv 3) pe_int) (pe_op op_mulA pe_int (pe_op op_addA (pv 2) pe_int))) (pe_op op_mulA pe_int (pv 4))) pe_int))
  (pss_cons (ps_set (i := 3) nd rfl (Or.inl rfl) (pe_op op_modI (pe_op op_mulA (pv 3) pe_int) pe_int))
  (pss_one (ps_expr (pe_bm PySem.F.plainAttrs_list PySem.F.slot_list_append PySem.F.type_list_append mt_append (pv 1) (pa_cons (pe_op op_modI (pe_op op_divN (pv 3) pe_int) pe_int) pa_nil))))))))))))
  (pss_one (ps_ret (pv 1)))))
theorem sc_first_values : FnScope N_first_values [] (defScope s_first_values) := ⟨rfl, rfl, rfl, by decide +kernel, rfl, by decide +kernel, by decide +kernel⟩
theorem ok_first_values (T : Tx K mg) (hF : ∃ fd, FunD K "first_values" "first_values" (defArgs s_first_values) (defBody s_first_values) (defScope s_first_values) [] [] (He.fAd K ("first_values", none)) fd) (h_frame_cell : Okd P w K mg base 1 (He.fAd K ("frame_cell", none)) ["device", "frame", "index"] (sp_frame_cell K)) (h_table_word : Okd P w K mg base 1 (He.fAd K ("table_word", none)) ["device", "page"] (sp_table_word K)) : Okd P w K mg base 2 (He.fAd K ("first_values", none)) [] (sp_first_values K) := by
  obtain ⟨fd_frame_cell, G_frame_cell, b_frame_cell, kp_frame_cell, _⟩ := h_frame_cell
  obtain ⟨fd_table_word, G_table_word, b_table_word, kp_table_word, _⟩ := h_table_word
  refine Okd.of hF sc_first_values (fun vs H Q E h => match vs, h with | [], _ => rfl) (fun _ _ _ _ _ _ us hl => match us, hl with | [], _ => rfl) (t := t_first_values K) (fun cdv A outer s H E hr => ?_) (fun vs H Q E h => match vs, h with | [], h => pure_first_values h)
  have nd := sc_first_values.nd
  exact (pss_cons (ps_set (i := 0) nd rfl (Or.inl rfl) (pe_op op_mulA (pe_lst (pa_cons pe_int pa_nil)) (pe_gint rfl T.c_ALL_CELLS)))
  (pss_cons (ps_for (passes_of rfl) rfl (pi_range1 rfl T.b_range (pa_cons (pe_gint rfl T.c_DEVICES) pa_nil)) (pg_name (i := 1) nd rfl (Or.inl rfl)) (pss_cons (ps_for (passes_of rfl) rfl (pi_range2 rfl T.b_range (pa_cons (pe_call G_frame_cell (hr.mono (by decide)) rfl T.g_frame_cell kp_frame_cell b_frame_cell .nil passL (pa_cons (pv 1) (pa_cons pe_int (pa_cons pe_int pa_nil)))) (pa_cons (pe_call G_frame_cell (hr.mono (by decide)) rfl T.g_frame_cell kp_frame_cell b_frame_cell .nil passL (pa_cons (pv 1) (pa_cons (pe_gint rfl T.c_RING_FRAMES) (pa_cons pe_int pa_nil)))) pa_nil))) (pg_name (i := 2) nd rfl (Or.inl rfl)) (pss_one (ps_asg pe_non (pg_sub (pv 0) (pv 2) set_list))))
  (pss_one (ps_for (passes_of rfl) rfl (pi_range1 rfl T.b_range (pa_cons (pe_gint rfl T.c_PAGES) pa_nil)) (pg_name (i := 3) nd rfl (Or.inl rfl)) (pss_one (ps_asg pe_non (pg_sub (pv 0) (pe_call G_table_word (hr.mono (by decide)) rfl T.g_table_word kp_table_word b_table_word .nil passL (pa_cons (pv 1) (pa_cons (pv 3) pa_nil))) set_list)))))))
  (pss_one (ps_ret (pv 0)))))
theorem sc_Guard_init : FnScope N_Guard_init ["self"] (defScope s_Guard_init) := ⟨rfl, rfl, rfl, by decide +kernel, rfl, by decide +kernel, by decide +kernel⟩
theorem ok_Guard_init (T : Tx K mg) (Z : Zx K) (hF : ∃ fd, FunD K "__init__" "Guard.__init__" (defArgs s_Guard_init) (defBody s_Guard_init) (defScope s_Guard_init) [] [] (He.fAd K ("Guard", some "__init__")) fd)  : Okd P w K mg base 1 (He.fAd K ("Guard", some "__init__")) ["self"] (sp_Guard_init K) := by
  refine Okd.of hF sc_Guard_init (fun vs H Q E h => match vs, h with | [_], _ => rfl) (fun _ _ _ _ _ _ us hl => match us, hl with | [_], _ => rfl) (t := t_Guard_init K) (fun cdv A outer s H E hr => ?_) (fun vs H Q E h => match vs, h with | [a0], h => pure_Guard_init Z h)
  have nd := sc_Guard_init.nd
  exact (pss_cons (ps_fld (pv 0) pe_dnewK rfl)
  (pss_cons (ps_fld (pv 0) (pe_lst pa_nil) rfl)
  (pss_one (ps_fld (pv 0) pe_int rfl))))
theorem sc_Memory_init : FnScope N_Memory_init ["self"] (defScope s_Memory_init) := ⟨rfl, rfl, rfl, by decide +kernel, rfl, by decide +kernel, by decide +kernel⟩
theorem ok_Memory_init (T : Tx K mg) (Z : Zx K) (hF : ∃ fd, FunD K "__init__" "Memory.__init__" (defArgs s_Memory_init) (defBody s_Memory_init) (defScope s_Memory_init) [] [] (He.fAd K ("Memory", some "__init__")) fd) (h_first_values : Okd P w K mg base 2 (He.fAd K ("first_values", none)) [] (sp_first_values K)) (h_Guard_init : Okd P w K mg base 1 (He.fAd K ("Guard", some "__init__")) ["self"] (sp_Guard_init K)) : Okd P w K mg base 3 (He.fAd K ("Memory", some "__init__")) ["self"] (sp_Memory_init K) := by
  obtain ⟨fd_first_values, G_first_values, b_first_values, kp_first_values, _⟩ := h_first_values
  obtain ⟨fd_Guard_init, G_Guard_init, b_Guard_init, kp_Guard_init, _⟩ := h_Guard_init
  refine Okd.of hF sc_Memory_init (fun vs H Q E h => match vs, h with | [_], _ => rfl) (fun _ _ _ _ _ _ us hl => match us, hl with | [_], _ => rfl) (t := t_Memory_init K) (fun cdv A outer s H E hr => ?_) (fun vs H Q E h => match vs, h with | [a0], h => pure_Memory_init Z h)
  have nd := sc_Memory_init.nd
  exact (pss_cons (ps_fld (pv 0) pe_int rfl)
  (pss_cons (ps_fld (pv 0) (pe_call0 G_first_values (hr.mono (by decide)) rfl T.g_first_values kp_first_values b_first_values .nil passL) rfl)
  (pss_cons (ps_fld (pv 0) (pe_lc (own := [("_", 1)]) (g := gName 1) (tt := tYes) (te := tMake (He.ga K "Guard") (sp_Guard_init K) [] E0 tNil) rfl nd (pi_range1 rfl T.b_range (pa_cons (pe_gint rfl T.c_DEVICES) pa_nil)) (blkOk_by (own := [("_", 1)]) (N := N_Memory_init) (sc := defScope s_Memory_init) (by decide +kernel)) (fun _ _ _ _ _ => (pg_name (i := 1) nd rfl (Or.inl rfl))) (fun _ _ _ _ _ => pts_nil) (fun _ _ _ _ _ => (pe_make0 T.mk_Guard G_Guard_init (hr.mono (by decide)) rfl T.g_Guard b_Guard_init .nil passL))) rfl)
  (pss_cons (ps_fld (pv 0) (pe_lc (own := [("_", 1)]) (g := gName 1) (tt := tYes) (te := tOp (rMulA K) (tLst (tCons (tTup (tCons (tC (.int 0)) (tCons (tC (.int 0)) (tCons (tC (.int 0)) (tCons (tC (.int 0)) (tNil)))))) (tNil))) (tC (.int 8))) rfl nd (pi_range1 rfl T.b_range (pa_cons (pe_gint rfl T.c_DEVICES) pa_nil)) (blkOk_by (own := [("_", 1)]) (N := N_Memory_init) (sc := defScope s_Memory_init) (by decide +kernel)) (fun _ _ _ _ _ => (pg_name (i := 1) nd rfl (Or.inl rfl))) (fun _ _ _ _ _ => pts_nil) (fun _ _ _ _ _ => (pe_op op_mulA (pe_lst (pa_cons (pe_tup (pa_cons pe_int (pa_cons pe_int (pa_cons pe_int (pa_cons pe_int pa_nil))))) pa_nil)) (pe_gint rfl T.c_BLOCKS)))) rfl)
  (pss_cons (ps_fld (pv 0) (pe_lc (own := [("_", 1)]) (g := gName 1) (tt := tYes) (te := tTup (tNil)) rfl nd (pi_range1 rfl T.b_range (pa_cons (pe_gint rfl T.c_DEVICES) pa_nil)) (blkOk_by (own := [("_", 1)]) (N := N_Memory_init) (sc := defScope s_Memory_init) (by decide +kernel)) (fun _ _ _ _ _ => (pg_name (i := 1) nd rfl (Or.inl rfl))) (fun _ _ _ _ _ => pts_nil) (fun _ _ _ _ _ => (pe_tup pa_nil))) rfl)
  (pss_one (ps_fld (pv 0) (pe_lst pa_nil) rfl)))))))
theorem sc_is_within : FnScope N_is_within ["value", "low", "high"] (defScope s_is_within) := ⟨rfl, rfl, rfl, by decide +kernel, rfl, by decide +kernel, by decide +kernel⟩
theorem ok_is_within (T : Tx K mg) (hF : ∃ fd, FunD K "is_within" "is_within" (defArgs s_is_within) (defBody s_is_within) (defScope s_is_within) [] [] (He.fAd K ("is_within", none)) fd)  : Okd P w K mg base 1 (He.fAd K ("is_within", none)) ["value", "low", "high"] (sp_is_within K) := by
  refine Okd.of hF sc_is_within (fun vs H Q E h => match vs, h with | [_, _, _], _ => rfl) (fun _ _ _ _ _ _ us hl => match us, hl with | [_, _, _], _ => rfl) (t := t_is_within K) (fun cdv A outer s H E hr => ?_) (fun vs H Q E h => match vs, h with | [a0, a1, a2], h => pure_is_within h)
  have nd := sc_is_within.nd
  exact (pss_one (ps_ret (pe_and (pe_callB cr_isi (by rfl) T.b_isinstance (by decide +kernel) (pa_cons (pv 0) (pa_cons (pe_bltn (v := .ty "int") (by rfl) T.b_int (by decide +kernel) rfl) pa_nil))) (pe_and (pe_not (pe_callB cr_isi (by rfl) T.b_isinstance (by decide +kernel) (pa_cons (pv 0) (pa_cons (pe_bltn (v := .ty "bool") (by rfl) T.b_bool (by decide +kernel) rfl) pa_nil)))) (pe_one (pe_chain op_leI op_leI (pv 1) (pv 0) (pv 2)))))))
theorem sc_Memory_check_cell : FnScope N_Memory_check_cell ["self", "cell"] (defScope s_Memory_check_cell) := ⟨rfl, rfl, rfl, by decide +kernel, rfl, by decide +kernel, by decide +kernel⟩
theorem ok_Memory_check_cell (T : Tx K mg) (hF : ∃ fd, FunD K "check_cell" "Memory.check_cell" (defArgs s_Memory_check_cell) (defBody s_Memory_check_cell) (defScope s_Memory_check_cell) [] [] (He.fAd K ("Memory", some "check_cell")) fd) (h_is_within : Okd P w K mg base 1 (He.fAd K ("is_within", none)) ["value", "low", "high"] (sp_is_within K)) : Okd P w K mg base 2 (He.fAd K ("Memory", some "check_cell")) ["self", "cell"] (sp_Memory_check_cell K) := by
  obtain ⟨fd_is_within, G_is_within, b_is_within, kp_is_within, _⟩ := h_is_within
  refine Okd.of hF sc_Memory_check_cell (fun vs H Q E h => match vs, h with | [_, _], _ => rfl) (fun _ _ _ _ _ _ us hl => match us, hl with | [_, _], _ => rfl) (t := t_Memory_check_cell K) (fun cdv A outer s H E hr => ?_) (fun vs H Q E h => match vs, h with | [a0, a1], h => pure_Memory_check_cell h)
  have nd := sc_Memory_check_cell.nd
  exact (pss_one (ps_if (pt_not (pt_tru (pe_call G_is_within (hr.mono (by decide)) rfl T.g_is_within kp_is_within b_is_within .nil passL (pa_cons (pv 1) (pa_cons pe_int (pa_cons (pe_op op_subN (pe_gint rfl T.c_ALL_CELLS) pe_int) pa_nil)))))) (pss_one (ps_raise0 T.x_NotValid rfl (takes_of rfl rfl rfl rfl) rfl)) pss_nil))
theorem sc_Memory_peek : FnScope N_Memory_peek ["self", "cell"] (defScope s_Memory_peek) := ⟨rfl, rfl, rfl, by decide +kernel, rfl, by decide +kernel, by decide +kernel⟩
theorem ok_Memory_peek (T : Tx K mg) (Z : Zx K) (hF : ∃ fd, FunD K "peek" "Memory.peek" (defArgs s_Memory_peek) (defBody s_Memory_peek) (defScope s_Memory_peek) [] [] (He.fAd K ("Memory", some "peek")) fd) (h_Memory_check_cell : Okd P w K mg base 2 (He.fAd K ("Memory", some "check_cell")) ["self", "cell"] (sp_Memory_check_cell K)) : Okd P w K mg base 3 (He.fAd K ("Memory", some "peek")) ["self", "cell"] (sp_Memory_peek K) := by
  obtain ⟨fd_Memory_check_cell, G_Memory_check_cell, b_Memory_check_cell, kp_Memory_check_cell, _⟩ := h_Memory_check_cell
  refine Okd.of hF sc_Memory_peek (fun vs H Q E h => match vs, h with | [_, _], _ => rfl) (fun _ _ _ _ _ _ us hl => match us, hl with | [_, _], _ => rfl) (t := t_Memory_peek K) (fun cdv A outer s H E hr => ?_) (fun vs H Q E h => match vs, h with | [a0, a1], h => pure_Memory_peek Z h)
  have nd := sc_Memory_peek.nd
  exact (pss_cons (ps_expr (pe_meth (pv 0) T.cl_Memory T.m_Memory_check_cell G_Memory_check_cell (hr.mono (by decide)) b_Memory_check_cell .nil (passes_call (takes_of rfl rfl rfl rfl) fun _ _ _ _ h => h) (pa_cons (pv 1) pa_nil)))
  (pss_one (ps_ret (pe_ix ix_seq (pe_fld (pv 0) rfl) (pv 1) (fun _ _ => rfl)))))
theorem sc_Memory_check_device : FnScope N_Memory_check_device ["self", "device"] (defScope s_Memory_check_device) := ⟨rfl, rfl, rfl, by decide +kernel, rfl, by decide +kernel, by decide +kernel⟩
theorem ok_Memory_check_device (T : Tx K mg) (hF : ∃ fd, FunD K "check_device" "Memory.check_device" (defArgs s_Memory_check_device) (defBody s_Memory_check_device) (defScope s_Memory_check_device) [] [] (He.fAd K ("Memory", some "check_device")) fd) (h_is_within : Okd P w K mg base 1 (He.fAd K ("is_within", none)) ["value", "low", "high"] (sp_is_within K)) : Okd P w K mg base 2 (He.fAd K ("Memory", some "check_device")) ["self", "device"] (sp_Memory_check_device K) := by
  obtain ⟨fd_is_within, G_is_within, b_is_within, kp_is_within, _⟩ := h_is_within
  refine Okd.of hF sc_Memory_check_device (fun vs H Q E h => match vs, h with | [_, _], _ => rfl) (fun _ _ _ _ _ _ us hl => match us, hl with | [_, _], _ => rfl) (t := t_Memory_check_device K) (fun cdv A outer s H E hr => ?_) (fun vs H Q E h => match vs, h with | [a0, a1], h => pure_Memory_check_device h)
  have nd := sc_Memory_check_device.nd
  exact (pss_one (ps_if (pt_not (pt_tru (pe_call G_is_within (hr.mono (by decide)) rfl T.g_is_within kp_is_within b_is_within .nil passL (pa_cons (pv 1) (pa_cons pe_int (pa_cons (pe_op op_subN (pe_gint rfl T.c_DEVICES) pe_int) pa_nil)))))) (pss_one (ps_raise0 T.x_NotValid rfl (takes_of rfl rfl rfl rfl) rfl)) pss_nil))
theorem sc_Memory_journal : FnScope N_Memory_journal ["self", "device"] (defScope s_Memory_journal) := ⟨rfl, rfl, rfl, by decide +kernel, rfl, by decide +kernel, by decide +kernel⟩
theorem ok_Memory_journal (T : Tx K mg) (Z : Zx K) (hF : ∃ fd, FunD K "journal" "Memory.journal" (defArgs s_Memory_journal) (defBody s_Memory_journal) (defScope s_Memory_journal) [] [] (He.fAd K ("Memory", some "journal")) fd) (h_Memory_check_device : Okd P w K mg base 2 (He.fAd K ("Memory", some "check_device")) ["self", "device"] (sp_Memory_check_device K)) : Okd P w K mg base 3 (He.fAd K ("Memory", some "journal")) ["self", "device"] (sp_Memory_journal K) := by
  obtain ⟨fd_Memory_check_device, G_Memory_check_device, b_Memory_check_device, kp_Memory_check_device, _⟩ := h_Memory_check_device
  refine Okd.of hF sc_Memory_journal (fun vs H Q E h => match vs, h with | [_, _], _ => rfl) (fun _ _ _ _ _ _ us hl => match us, hl with | [_, _], _ => rfl) (t := t_Memory_journal K) (fun cdv A outer s H E hr => ?_) (fun vs H Q E h => match vs, h with | [a0, a1], h => pure_Memory_journal Z h)
  have nd := sc_Memory_journal.nd
  exact (pss_cons (ps_expr (pe_meth (pv 0) T.cl_Memory T.m_Memory_check_device G_Memory_check_device (hr.mono (by decide)) b_Memory_check_device .nil (passes_call (takes_of rfl rfl rfl rfl) fun _ _ _ _ h => h) (pa_cons (pv 1) pa_nil)))
  (pss_one (ps_ret (pe_ix ix_seq (pe_fld (pv 0) rfl) (pv 1) (fun _ _ => rfl)))))
theorem sc_Guard_entries : FnScope N_Guard_entries ["self"] (defScope s_Guard_entries) := ⟨rfl, rfl, rfl, by decide +kernel, rfl, by decide +kernel, by decide +kernel⟩
theorem ok_Guard_entries (T : Tx K mg) (Z : Zx K) (hF : ∃ fd, FunD K "entries" "Guard.entries" (defArgs s_Guard_entries) (defBody s_Guard_entries) (defScope s_Guard_entries) [] [] (He.fAd K ("Guard", some "entries")) fd)  : Okd P w K mg base 1 (He.fAd K ("Guard", some "entries")) ["self"] (sp_Guard_entries K) := by
  refine Okd.of hF sc_Guard_entries (fun vs H Q E h => match vs, h with | [_], _ => rfl) (fun _ _ _ _ _ _ us hl => match us, hl with | [_], _ => rfl) (t := t_Guard_entries K) (fun cdv A outer s H E hr => ?_) (fun vs H Q E h => match vs, h with | [a0], h => pure_Guard_entries Z h)
  have nd := sc_Guard_entries.nd
  exact (pss_one (ps_ret (pe_lc (own := [("page", 1)]) (g := gName 1) (tt := tYes) (te := tTup (tCons (tVar 1) (tCons (tDGet (tFld K (tVar 0) "kept") (tVar 1)) (tNil)))) rfl nd (pi_list (pe_callB (cr_sortedDI rfl) (by rfl) T.b_sorted (by decide +kernel) (pa_cons (pe_fld (pv 0) rfl) pa_nil))) (blkOk_by (own := [("page", 1)]) (N := N_Guard_entries) (sc := defScope s_Guard_entries) (by decide +kernel)) (fun _ _ _ _ _ => (pg_name (i := 1) nd rfl (Or.inl rfl))) (fun _ _ _ _ _ => pts_nil) (fun _ _ _ _ _ => (pe_tup (pa_cons (pv 1) (pa_cons (pe_dget (hu_of hr) (pe_fld (pv 0) rfl) (pv 1) (fun _ _ => rfl)) pa_nil)))))))
theorem sc_Guard_queue : FnScope N_Guard_queue ["self"] (defScope s_Guard_queue) := ⟨rfl, rfl, rfl, by decide +kernel, rfl, by decide +kernel, by decide +kernel⟩
theorem ok_Guard_queue (T : Tx K mg) (Z : Zx K) (hF : ∃ fd, FunD K "queue" "Guard.queue" (defArgs s_Guard_queue) (defBody s_Guard_queue) (defScope s_Guard_queue) [] [] (He.fAd K ("Guard", some "queue")) fd)  : Okd P w K mg base 1 (He.fAd K ("Guard", some "queue")) ["self"] (sp_Guard_queue K) := by
  refine Okd.of hF sc_Guard_queue (fun vs H Q E h => match vs, h with | [_], _ => rfl) (fun _ _ _ _ _ _ us hl => match us, hl with | [_], _ => rfl) (t := t_Guard_queue K) (fun cdv A outer s H E hr => ?_) (fun vs H Q E h => match vs, h with | [a0], h => pure_Guard_queue Z h)
  have nd := sc_Guard_queue.nd
  exact (pss_one (ps_ret (pe_callTy cr_list (by rfl) T.b_list (by decide +kernel) (pa_cons (pe_fld (pv 0) rfl) pa_nil))))
theorem sc_Memory_check_block : FnScope N_Memory_check_block ["self", "block"] (defScope s_Memory_check_block) := ⟨rfl, rfl, rfl, by decide +kernel, rfl, by decide +kernel, by decide +kernel⟩
theorem ok_Memory_check_block (T : Tx K mg) (hF : ∃ fd, FunD K "check_block" "Memory.check_block" (defArgs s_Memory_check_block) (defBody s_Memory_check_block) (defScope s_Memory_check_block) [] [] (He.fAd K ("Memory", some "check_block")) fd) (h_is_within : Okd P w K mg base 1 (He.fAd K ("is_within", none)) ["value", "low", "high"] (sp_is_within K)) : Okd P w K mg base 2 (He.fAd K ("Memory", some "check_block")) ["self", "block"] (sp_Memory_check_block K) := by
  obtain ⟨fd_is_within, G_is_within, b_is_within, kp_is_within, _⟩ := h_is_within
  refine Okd.of hF sc_Memory_check_block (fun vs H Q E h => match vs, h with | [_, _], _ => rfl) (fun _ _ _ _ _ _ us hl => match us, hl with | [_, _], _ => rfl) (t := t_Memory_check_block K) (fun cdv A outer s H E hr => ?_) (fun vs H Q E h => match vs, h with | [a0, a1], h => pure_Memory_check_block h)
  have nd := sc_Memory_check_block.nd
  exact (pss_one (ps_if (pt_not (pt_tru (pe_call G_is_within (hr.mono (by decide)) rfl T.g_is_within kp_is_within b_is_within .nil passL (pa_cons (pv 1) (pa_cons pe_int (pa_cons (pe_op op_subN (pe_gint rfl T.c_BLOCKS) pe_int) pa_nil)))))) (pss_one (ps_raise0 T.x_NotValid rfl (takes_of rfl rfl rfl rfl) rfl)) pss_nil))
theorem sc_Memory_block : FnScope N_Memory_block ["self", "device", "block"] (defScope s_Memory_block) := ⟨rfl, rfl, rfl, by decide +kernel, rfl, by decide +kernel, by decide +kernel⟩
theorem ok_Memory_block (T : Tx K mg) (Z : Zx K) (hF : ∃ fd, FunD K "block" "Memory.block" (defArgs s_Memory_block) (defBody s_Memory_block) (defScope s_Memory_block) [] [] (He.fAd K ("Memory", some "block")) fd) (h_Memory_check_device : Okd P w K mg base 2 (He.fAd K ("Memory", some "check_device")) ["self", "device"] (sp_Memory_check_device K)) (h_Memory_check_block : Okd P w K mg base 2 (He.fAd K ("Memory", some "check_block")) ["self", "block"] (sp_Memory_check_block K)) : Okd P w K mg base 3 (He.fAd K ("Memory", some "block")) ["self", "device", "block"] (sp_Memory_block K) := by
  obtain ⟨fd_Memory_check_device, G_Memory_check_device, b_Memory_check_device, kp_Memory_check_device, _⟩ := h_Memory_check_device
  obtain ⟨fd_Memory_check_block, G_Memory_check_block, b_Memory_check_block, kp_Memory_check_block, _⟩ := h_Memory_check_block
  refine Okd.of hF sc_Memory_block (fun vs H Q E h => match vs, h with | [_, _, _], _ => rfl) (fun _ _ _ _ _ _ us hl => match us, hl with | [_, _, _], _ => rfl) (t := t_Memory_block K) (fun cdv A outer s H E hr => ?_) (fun vs H Q E h => match vs, h with | [a0, a1, a2], h => pure_Memory_block Z h)
  have nd := sc_Memory_block.nd
  exact (pss_cons (ps_expr (pe_meth (pv 0) T.cl_Memory T.m_Memory_check_device G_Memory_check_device (hr.mono (by decide)) b_Memory_check_device .nil (passes_call (takes_of rfl rfl rfl rfl) fun _ _ _ _ h => h) (pa_cons (pv 1) pa_nil)))
  (pss_cons (ps_expr (pe_meth (pv 0) T.cl_Memory T.m_Memory_check_block G_Memory_check_block (hr.mono (by decide)) b_Memory_check_block .nil (passes_call (takes_of rfl rfl rfl rfl) fun _ _ _ _ h => h) (pa_cons (pv 2) pa_nil)))
  (pss_one (ps_ret (pe_ix ix_seq (pe_ix ix_seq (pe_fld (pv 0) rfl) (pv 1) (fun _ _ => rfl)) (pv 2) (fun _ _ => rfl))))))
theorem sc_law_at : FnScope N_law_at ["_law_tape_here", "_law_k"] (defScope s_law_at) := ⟨rfl, rfl, rfl, by decide +kernel, rfl, by decide +kernel, by decide +kernel⟩
theorem ok_law_at (T : Tx K mg) (hF : ∃ fd, FunD K "_law_at" "_law_at" (defArgs s_law_at) (defBody s_law_at) (defScope s_law_at) [] [] (He.fAd K ("_law_at", none)) fd)  : Okd P w K mg base 1 (He.fAd K ("_law_at", none)) ["_law_tape_here", "_law_k"] (sp_law_at K) := by
  refine Okd.of hF sc_law_at (fun vs H Q E h => match vs, h with | [_, _], _ => rfl) (fun _ _ _ _ _ _ us hl => match us, hl with | [_, _], _ => rfl) (t := t_law_at K) (fun cdv A outer s H E hr => ?_) (fun vs H Q E h => match vs, h with | [a0, a1], h => pure_law_at h)
  have nd := sc_law_at.nd
  exact (pss_cons (ps_if (pt_cmpR op_ltI (pv 1) (pe_callB cr_len (by rfl) T.b_len (by decide +kernel) (pa_cons (pv 0) pa_nil)) (nomark _)) (pss_one (ps_ret (pe_ix ix_seq (pv 0) (pv 1) (fun _ _ => rfl)))) pss_nil)
  (pss_one (ps_ret pe_int)))
theorem sc_law_told : FnScope N_law_told ["_law_memory", "_law_act", "_law_first", "_law_second"] (defScope s_law_told) := ⟨rfl, rfl, rfl, by decide +kernel, rfl, by decide +kernel, by decide +kernel⟩
theorem ok_law_told (T : Tx K mg) (Z : Zx K) (hF : ∃ fd, FunD K "_law_told" "_law_told" (defArgs s_law_told) (defBody s_law_told) (defScope s_law_told) [] [] (He.fAd K ("_law_told", none)) fd) (h_Memory_peek : Okd P w K mg base 3 (He.fAd K ("Memory", some "peek")) ["self", "cell"] (sp_Memory_peek K)) (h_Memory_journal : Okd P w K mg base 3 (He.fAd K ("Memory", some "journal")) ["self", "device"] (sp_Memory_journal K)) (h_Memory_block : Okd P w K mg base 3 (He.fAd K ("Memory", some "block")) ["self", "device", "block"] (sp_Memory_block K)) : Okd P w K mg base 4 (He.fAd K ("_law_told", none)) ["_law_memory", "_law_act", "_law_first", "_law_second"] (sp_law_told K) := by
  obtain ⟨fd_Memory_peek, G_Memory_peek, b_Memory_peek, kp_Memory_peek, _⟩ := h_Memory_peek
  obtain ⟨fd_Memory_journal, G_Memory_journal, b_Memory_journal, kp_Memory_journal, _⟩ := h_Memory_journal
  obtain ⟨fd_Memory_block, G_Memory_block, b_Memory_block, kp_Memory_block, _⟩ := h_Memory_block
  refine Okd.of hF sc_law_told (fun vs H Q E h => match vs, h with | [_, _, _, _], _ => rfl) (fun _ _ _ _ _ _ us hl => match us, hl with | [_, _, _, _], _ => rfl) (t := t_law_told K) (fun cdv A outer s H E hr => ?_) (fun vs H Q E h => match vs, h with | [a0, a1, a2, a3], h => pure_law_told Z h)
  have nd := sc_law_told.nd
  exact (pss_one (ps_tryAs (i := 4) rfl rfl nd rfl rfl rfl rfl T.g_RingError takes0 (fun W pn xe tkW _ => (pss_cons (ps_if (pt_cmpR (op_eqD hr.units) (pv 1) pe_str (nomark _)) (pss_one (ps_ret (pe_methS (pv 0) T.cl_Memory T.m_Memory_peek G_Memory_peek (hr.mono (by decide)) b_Memory_peek (fun σ => passAt tkW σ) (pa_cons (pv 2) pa_nil)))) pss_nil)
  (pss_cons (ps_if (pt_cmpR (op_eqD hr.units) (pv 1) pe_str (nomark _)) (pss_one (ps_ret (pe_methS (pv 0) T.cl_Memory T.m_Memory_journal G_Memory_journal (hr.mono (by decide)) b_Memory_journal (fun σ => passAt tkW σ) (pa_cons (pv 2) pa_nil)))) pss_nil)
  (pss_one (ps_ret (pe_methS (pv 0) T.cl_Memory T.m_Memory_block G_Memory_block (hr.mono (by decide)) b_Memory_block (fun σ => passAt tkW σ) (pa_cons (pv 2) (pa_cons (pv 3) pa_nil)))))))) (fun a oe cls d pn hz hf => pss_kn fun e1 e2 => by
    subst e1 e2
    exact (pss_one (ps_ret (pe_lst (pa_cons pe_str (pa_cons (pe_callB (call_isE T.e_NotValid hz hf) (by rfl) T.b_isinstance (by decide +kernel) (pa_cons (pv 4) (pa_cons (pe_glob rfl T.g_NotValid rfl) pa_nil))) pa_nil))))))))
theorem sc_Memory_log : FnScope N_Memory_log ["self"] (defScope s_Memory_log) := ⟨rfl, rfl, rfl, by decide +kernel, rfl, by decide +kernel, by decide +kernel⟩
theorem ok_Memory_log (T : Tx K mg) (Z : Zx K) (hF : ∃ fd, FunD K "log" "Memory.log" (defArgs s_Memory_log) (defBody s_Memory_log) (defScope s_Memory_log) [] [] (He.fAd K ("Memory", some "log")) fd)  : Okd P w K mg base 1 (He.fAd K ("Memory", some "log")) ["self"] (sp_Memory_log K) := by
  refine Okd.of hF sc_Memory_log (fun vs H Q E h => match vs, h with | [_], _ => rfl) (fun _ _ _ _ _ _ us hl => match us, hl with | [_], _ => rfl) (t := t_Memory_log K) (fun cdv A outer s H E hr => ?_) (fun vs H Q E h => match vs, h with | [a0], h => pure_Memory_log Z h)
  have nd := sc_Memory_log.nd
  exact (pss_one (ps_ret (pe_callTy cr_list (by rfl) T.b_list (by decide +kernel) (pa_cons (pe_fld (pv 0) rfl) pa_nil))))
theorem sc_law : FnScope N_law ["_law_script"] (defScope s_law) := ⟨rfl, rfl, rfl, by decide +kernel, rfl, by decide +kernel, by decide +kernel⟩
theorem ok_law (T : Tx K mg) (Z : Zx K) (hF : ∃ fd, FunD K "law" "law" (defArgs s_law) (defBody s_law) (defScope s_law) [] [] (He.fAd K ("law", none)) fd) (h_law_listed : Okd P w K mg base 3 (He.fAd K ("_law_listed", none)) [] (sp_law_listed K)) (h_law_tape : Okd P w K mg base 1 (He.fAd K ("_law_tape", none)) ["_law_script"] (sp_law_tape K)) (h_Memory_init : Okd P w K mg base 3 (He.fAd K ("Memory", some "__init__")) ["self"] (sp_Memory_init K)) (h_Memory_peek : Okd P w K mg base 3 (He.fAd K ("Memory", some "peek")) ["self", "cell"] (sp_Memory_peek K)) (h_Memory_journal : Okd P w K mg base 3 (He.fAd K ("Memory", some "journal")) ["self", "device"] (sp_Memory_journal K)) (h_Guard_entries : Okd P w K mg base 1 (He.fAd K ("Guard", some "entries")) ["self"] (sp_Guard_entries K)) (h_Guard_queue : Okd P w K mg base 1 (He.fAd K ("Guard", some "queue")) ["self"] (sp_Guard_queue K)) (h_Memory_block : Okd P w K mg base 3 (He.fAd K ("Memory", some "block")) ["self", "device", "block"] (sp_Memory_block K)) (h_law_at : Okd P w K mg base 1 (He.fAd K ("_law_at", none)) ["_law_tape_here", "_law_k"] (sp_law_at K)) (h_law_told : Okd P w K mg base 4 (He.fAd K ("_law_told", none)) ["_law_memory", "_law_act", "_law_first", "_law_second"] (sp_law_told K)) (h_Memory_log : Okd P w K mg base 1 (He.fAd K ("Memory", some "log")) ["self"] (sp_Memory_log K)) : Okd P w K mg base 5 (He.fAd K ("law", none)) ["_law_script"] (sp_law K) := by
  obtain ⟨fd_law_listed, G_law_listed, b_law_listed, kp_law_listed, _⟩ := h_law_listed
  obtain ⟨fd_law_tape, G_law_tape, b_law_tape, kp_law_tape, _⟩ := h_law_tape
  obtain ⟨fd_Memory_init, G_Memory_init, b_Memory_init, kp_Memory_init, _⟩ := h_Memory_init
  obtain ⟨fd_Memory_peek, G_Memory_peek, b_Memory_peek, kp_Memory_peek, _⟩ := h_Memory_peek
  obtain ⟨fd_Memory_journal, G_Memory_journal, b_Memory_journal, kp_Memory_journal, _⟩ := h_Memory_journal
  obtain ⟨fd_Guard_entries, G_Guard_entries, b_Guard_entries, kp_Guard_entries, _⟩ := h_Guard_entries
  obtain ⟨fd_Guard_queue, G_Guard_queue, b_Guard_queue, kp_Guard_queue, _⟩ := h_Guard_queue
  obtain ⟨fd_Memory_block, G_Memory_block, b_Memory_block, kp_Memory_block, _⟩ := h_Memory_block
  obtain ⟨fd_law_at, G_law_at, b_law_at, kp_law_at, _⟩ := h_law_at
  obtain ⟨fd_law_told, G_law_told, b_law_told, kp_law_told, _⟩ := h_law_told
  obtain ⟨fd_Memory_log, G_Memory_log, b_Memory_log, kp_Memory_log, _⟩ := h_Memory_log
  refine Okd.of hF sc_law (fun vs H Q E h => match vs, h with | [_], _ => rfl) (fun _ _ _ _ _ _ us hl => match us, hl with | [_], _ => rfl) (t := t_law K) (fun cdv A outer s H E hr => ?_) (fun vs H Q E h => match vs, h with | [a0], h => pure_law Z h)
  have nd := sc_law.nd
  exact (pss_cons (ps_if (PW.pt (pw_or (pt_cmpR (op_neD hr.units) (pe_tup (pa_cons (pe_gint rfl T.c_DEVICES) (pa_cons (pe_gint rfl T.c_PAGES) (pa_cons (pe_gint rfl T.c_FRAMES) (pa_cons (pe_gint rfl T.c_CELLS) (pa_cons (pe_gint rfl T.c_BLOCKS) pa_nil)))))) (pe_tup (pa_cons pe_int (pa_cons pe_int (pa_cons pe_int (pa_cons pe_int (pa_cons pe_int pa_nil)))))) (nomark _)) (pw_or1 (pt_cmpR (op_neD hr.units) (pe_call0 G_law_listed (hr.mono (by decide)) rfl T.g__law_listed kp_law_listed b_law_listed .nil passL) (pe_lc (own := [("_law_k", 5)]) (g := gName 5) (tt := tYes) (te := tVar 5) rfl nd (pi_range1 rfl T.b_range (pa_cons pe_int pa_nil)) (blkOk_by (own := [("_law_k", 5)]) (N := N_law) (sc := defScope s_law) (by decide +kernel)) (fun _ _ _ _ _ => (pg_name (i := 5) nd rfl (Or.inl rfl))) (fun _ _ _ _ _ => pts_nil) (fun _ _ _ _ _ => (pv 5))) (nomark _))))) (pss_one (ps_ret pe_bl)) pss_nil)
  (pss_cons (ps_set (i := 1) nd rfl (Or.inl rfl) (pe_call G_law_tape (hr.mono (by decide)) rfl T.g__law_tape kp_law_tape b_law_tape .nil passL (pa_cons (pv 0) pa_nil)))
  (pss_cons (ps_set (i := 2) nd rfl (Or.inl rfl) (pe_make0 T.mk_Memory G_Memory_init (hr.mono (by decide)) rfl T.g_Memory b_Memory_init .nil passL))
  (pss_cons (ps_for (passes_of rfl) rfl (pi_range1 rfl T.b_range (pa_cons pe_int pa_nil)) (pg_name (i := 3) nd rfl (Or.inl rfl)) (pss_cons (ps_set (i := 6) nd rfl (Or.inl rfl) (pe_or (pe_cmpR op_ltI (pv 3) pe_int (nomark _)) (pe_or (pe_chain op_leI op_ltI pe_int (pv 3) pe_int) (pe_one (pe_chain op_leI op_ltI pe_int (pv 3) pe_int)))))
  (pss_cons (ps_set (i := 7) nd rfl (Or.inl rfl) (pe_meth (pv 2) T.cl_Memory T.m_Memory_peek G_Memory_peek (hr.mono (by decide)) b_Memory_peek .nil passL (pa_cons (pv 3) pa_nil)))
  (pss_one (ps_if (PW.pt (pw_or (PW.pt (pw_and (pt_tru (pv 6)) (pw_and1 (pt_cmpR op_notN1 (pv 7) pe_non (nomark _))))) (pw_or1 (PW.pt (pw_and (pt_not (pt_tru (pv 6))) (pw_and1 (PW.pt (pw_or (pt_cmpR op_isN1 (pv 7) pe_non (nomark _)) (pw_or (pt_tru (pe_callB cr_isi (by rfl) T.b_isinstance (by decide +kernel) (pa_cons (pv 7) (pa_cons (pe_bltn (v := .ty "bool") (by rfl) T.b_bool (by decide +kernel) rfl) pa_nil)))) (pw_or1 (pt_cmpR (op_neD hr.units) (pv 7) pe_int (nomark _)))))))))))) (pss_one (ps_ret pe_bl)) pss_nil)))))
  (pss_cons (ps_for (passes_of rfl) rfl (pi_range1 rfl T.b_range (pa_cons pe_int pa_nil)) (pg_name (i := 4) nd rfl (Or.inl rfl)) (pss_cons (ps_if (PW.pt (pw_or (pt_cmpR (op_neD hr.units) (pe_meth (pv 2) T.cl_Memory T.m_Memory_journal G_Memory_journal (hr.mono (by decide)) b_Memory_journal .nil passL (pa_cons (pv 4) pa_nil)) (pe_tup pa_nil) (nomark _)) (pw_or (pt_cmpR (op_neD hr.units) (pe_meth0 (pe_ix ix_seq (pe_fld (pv 2) rfl) (pv 4) (fun _ _ => rfl)) T.cl_Guard T.m_Guard_entries G_Guard_entries (hr.mono (by decide)) b_Guard_entries .nil passL) (pe_lst pa_nil) (nomark _)) (pw_or1 (pt_cmpR (op_neD hr.units) (pe_meth0 (pe_ix ix_seq (pe_fld (pv 2) rfl) (pv 4) (fun _ _ => rfl)) T.cl_Guard T.m_Guard_queue G_Guard_queue (hr.mono (by decide)) b_Guard_queue .nil passL) (pe_lst pa_nil) (nomark _)))))) (pss_one (ps_ret pe_bl)) pss_nil)
  (pss_one (ps_for (passes_of rfl) rfl (pi_range1 rfl T.b_range (pa_cons pe_int pa_nil)) (pg_name (i := 8) nd rfl (Or.inl rfl)) (pss_one (ps_if (pt_cmpR (op_neD hr.units) (pe_meth (pv 2) T.cl_Memory T.m_Memory_block G_Memory_block (hr.mono (by decide)) b_Memory_block .nil passL (pa_cons (pv 4) (pa_cons (pv 8) pa_nil))) (pe_tup (pa_cons pe_int (pa_cons pe_int (pa_cons pe_int (pa_cons pe_int pa_nil))))) (nomark _)) (pss_one (ps_ret pe_bl)) pss_nil))))))
  (pss_cons (ps_for (passes_of rfl) rfl (pi_range1 rfl T.b_range (pa_cons (pe_callB (cr_min2 rfl) (by rfl) T.b_min (by decide +kernel) (pa_cons pe_int (pa_cons (pe_callB cr_len (by rfl) T.b_len (by decide +kernel) (pa_cons (pv 1) pa_nil)) pa_nil))) pa_nil)) (pg_name (i := 5) nd rfl (Or.inl rfl)) (pss_cons (ps_set (i := 9) nd rfl (Or.inl rfl) (pe_ix ix_seq (pe_lst (pa_cons pe_int (pa_cons (pe_un un_negI pe_int) (pa_cons (pe_op op_addA pe_int (pe_call G_law_at (hr.mono (by decide)) rfl T.g__law_at kp_law_at b_law_at .nil passL (pa_cons (pv 1) (pa_cons (pv 5) pa_nil)))) (pa_cons pe_non pa_nil))))) (pe_op op_modI (pe_call G_law_at (hr.mono (by decide)) rfl T.g__law_at kp_law_at b_law_at .nil passL (pa_cons (pv 1) (pa_cons (pv 5) pa_nil))) pe_int) (fun _ _ => rfl)))
  (pss_cons (ps_if (pt_cmpR (op_neD hr.units) (pe_call G_law_told (hr.mono (by decide)) rfl T.g__law_told kp_law_told b_law_told .nil passL (pa_cons (pv 2) (pa_cons pe_str (pa_cons (pv 9) (pa_cons pe_int pa_nil))))) (pe_lst (pa_cons pe_str (pa_cons pe_bl pa_nil))) (nomark _)) (pss_one (ps_ret pe_bl)) pss_nil)
  (pss_cons (ps_set (i := 10) nd rfl (Or.inl rfl) (pe_ix ix_seq (pe_lst (pa_cons pe_int (pa_cons (pe_un un_negI pe_int) (pa_cons (pe_op op_addA pe_int (pe_call G_law_at (hr.mono (by decide)) rfl T.g__law_at kp_law_at b_law_at .nil passL (pa_cons (pv 1) (pa_cons (pv 5) pa_nil)))) pa_nil)))) (pe_op op_modI (pe_call G_law_at (hr.mono (by decide)) rfl T.g__law_at kp_law_at b_law_at .nil passL (pa_cons (pv 1) (pa_cons (pv 5) pa_nil))) pe_int) (fun _ _ => rfl)))
  (pss_cons (ps_if (pt_cmpR (op_neD hr.units) (pe_call G_law_told (hr.mono (by decide)) rfl T.g__law_told kp_law_told b_law_told .nil passL (pa_cons (pv 2) (pa_cons pe_str (pa_cons (pv 10) (pa_cons pe_int pa_nil))))) (pe_lst (pa_cons pe_str (pa_cons pe_bl pa_nil))) (nomark _)) (pss_one (ps_ret pe_bl)) pss_nil)
  (pss_cons (ps_if (pt_cmpR (op_neD hr.units) (pe_call G_law_told (hr.mono (by decide)) rfl T.g__law_told kp_law_told b_law_told .nil passL (pa_cons (pv 2) (pa_cons pe_str (pa_cons (pv 10) (pa_cons pe_int pa_nil))))) (pe_lst (pa_cons pe_str (pa_cons pe_bl pa_nil))) (nomark _)) (pss_one (ps_ret pe_bl)) pss_nil)
  (pss_one (ps_if (pt_cmpR (op_neD hr.units) (pe_call G_law_told (hr.mono (by decide)) rfl T.g__law_told kp_law_told b_law_told .nil passL (pa_cons (pv 2) (pa_cons pe_str (pa_cons (pe_op op_modI (pv 5) pe_int) (pa_cons (pe_ix ix_seq (pe_lst (pa_cons pe_int (pa_cons (pe_un un_negI pe_int) (pa_cons (pe_op op_addA pe_int (pv 5)) pa_nil)))) (pe_op op_modI (pv 5) pe_int) (fun _ _ => rfl)) pa_nil))))) (pe_lst (pa_cons pe_str (pa_cons pe_bl pa_nil))) (nomark _)) (pss_one (ps_ret pe_bl)) pss_nil))))))))
  (pss_one (ps_ret (pe_and (pe_cmpR (op_eqD hr.units) (pe_fld (pv 2) rfl) pe_int (nomark _)) (pe_one (pe_cmpR (op_eqD hr.units) (pe_meth0 (pv 2) T.cl_Memory T.m_Memory_log G_Memory_log (hr.mono (by decide)) b_Memory_log .nil passL) (pe_lst pa_nil) (nomark _))))))))))))
end
def dd_frame_cell : He.DefD := ⟨("frame_cell", none), "frame_cell", "frame_cell", defArgs s_frame_cell, defBody s_frame_cell, defScope s_frame_cell, [], []⟩
def dd_doorbell : He.DefD := ⟨("doorbell", none), "doorbell", "doorbell", defArgs s_doorbell, defBody s_doorbell, defScope s_doorbell, [], []⟩
def dd_reset : He.DefD := ⟨("reset", none), "reset", "reset", defArgs s_reset, defBody s_reset, defScope s_reset, [], []⟩
def dd_ready : He.DefD := ⟨("ready", none), "ready", "ready", defArgs s_ready, defBody s_ready, defScope s_ready, [], []⟩
def dd_interrupt : He.DefD := ⟨("interrupt", none), "interrupt", "interrupt", defArgs s_interrupt, defBody s_interrupt, defScope s_interrupt, [], []⟩
def dd_table_word : He.DefD := ⟨("table_word", none), "table_word", "table_word", defArgs s_table_word, defBody s_table_word, defScope s_table_word, [], []⟩
def dd_acknowledge : He.DefD := ⟨("acknowledge", none), "acknowledge", "acknowledge", defArgs s_acknowledge, defBody s_acknowledge, defScope s_acknowledge, [], []⟩
def dd_law_listed : He.DefD := ⟨("_law_listed", none), "_law_listed", "_law_listed", defArgs s_law_listed, defBody s_law_listed, defScope s_law_listed, [], []⟩
def dd_law_tape : He.DefD := ⟨("_law_tape", none), "_law_tape", "_law_tape", defArgs s_law_tape, defBody s_law_tape, defScope s_law_tape, [], []⟩
def dd_first_values : He.DefD := ⟨("first_values", none), "first_values", "first_values", defArgs s_first_values, defBody s_first_values, defScope s_first_values, [], []⟩
def dd_Guard_init : He.DefD := ⟨("Guard", some "__init__"), "__init__", "Guard.__init__", defArgs s_Guard_init, defBody s_Guard_init, defScope s_Guard_init, [], []⟩
def dd_Memory_init : He.DefD := ⟨("Memory", some "__init__"), "__init__", "Memory.__init__", defArgs s_Memory_init, defBody s_Memory_init, defScope s_Memory_init, [], []⟩
def dd_is_within : He.DefD := ⟨("is_within", none), "is_within", "is_within", defArgs s_is_within, defBody s_is_within, defScope s_is_within, [], []⟩
def dd_Memory_check_cell : He.DefD := ⟨("Memory", some "check_cell"), "check_cell", "Memory.check_cell", defArgs s_Memory_check_cell, defBody s_Memory_check_cell, defScope s_Memory_check_cell, [], []⟩
def dd_Memory_peek : He.DefD := ⟨("Memory", some "peek"), "peek", "Memory.peek", defArgs s_Memory_peek, defBody s_Memory_peek, defScope s_Memory_peek, [], []⟩
def dd_Memory_check_device : He.DefD := ⟨("Memory", some "check_device"), "check_device", "Memory.check_device", defArgs s_Memory_check_device, defBody s_Memory_check_device, defScope s_Memory_check_device, [], []⟩
def dd_Memory_journal : He.DefD := ⟨("Memory", some "journal"), "journal", "Memory.journal", defArgs s_Memory_journal, defBody s_Memory_journal, defScope s_Memory_journal, [], []⟩
def dd_Guard_entries : He.DefD := ⟨("Guard", some "entries"), "entries", "Guard.entries", defArgs s_Guard_entries, defBody s_Guard_entries, defScope s_Guard_entries, [], []⟩
def dd_Guard_queue : He.DefD := ⟨("Guard", some "queue"), "queue", "Guard.queue", defArgs s_Guard_queue, defBody s_Guard_queue, defScope s_Guard_queue, [], []⟩
def dd_Memory_check_block : He.DefD := ⟨("Memory", some "check_block"), "check_block", "Memory.check_block", defArgs s_Memory_check_block, defBody s_Memory_check_block, defScope s_Memory_check_block, [], []⟩
def dd_Memory_block : He.DefD := ⟨("Memory", some "block"), "block", "Memory.block", defArgs s_Memory_block, defBody s_Memory_block, defScope s_Memory_block, [], []⟩
def dd_law_at : He.DefD := ⟨("_law_at", none), "_law_at", "_law_at", defArgs s_law_at, defBody s_law_at, defScope s_law_at, [], []⟩
def dd_law_told : He.DefD := ⟨("_law_told", none), "_law_told", "_law_told", defArgs s_law_told, defBody s_law_told, defScope s_law_told, [], []⟩
def dd_Memory_log : He.DefD := ⟨("Memory", some "log"), "log", "Memory.log", defArgs s_Memory_log, defBody s_Memory_log, defScope s_Memory_log, [], []⟩
def dd_law : He.DefD := ⟨("law", none), "law", "law", defArgs s_law, defBody s_law, defScope s_law, [], []⟩
def fn : List He.DefD := [dd_frame_cell, dd_doorbell, dd_reset, dd_ready, dd_interrupt, dd_table_word, dd_acknowledge, dd_law_listed, dd_law_tape, dd_first_values, dd_Guard_init, dd_Memory_init, dd_is_within, dd_Memory_check_cell, dd_Memory_peek, dd_Memory_check_device, dd_Memory_journal, dd_Guard_entries, dd_Guard_queue, dd_Memory_check_block, dd_Memory_block, dd_law_at, dd_law_told, dd_Memory_log, dd_law]
def fa : List He.Fa := [.free "abs", .free "bool", .free "int", .free "isinstance", .free "len", .free "list", .free "min", .free "range", .free "sorted", .int "ALL_CELLS" 70, .int "BLOCKS" 8, .int "CELLS" 4, .int "DEVICES" 2, .int "FIRST_ACKNOWLEDGE" 68, .int "FIRST_REGISTER" 48, .int "FIRST_WORD" 56, .int "FRAMES" 6, .int "PAGES" 6, .int "REGISTERS" 4, .int "RING_FRAMES" 2, .cls "Guard", .cls "Memory", .glo "Guard", .glo "Memory", .glo "NotValid", .glo "RingError", .glo "_law_at", .glo "_law_listed", .glo "_law_tape", .glo "_law_told", .glo "acknowledge", .glo "doorbell", .glo "first_values", .glo "frame_cell", .glo "interrupt", .glo "is_within", .glo "ready", .glo "reset", .glo "table_word", .meth "Guard" "entries", .meth "Guard" "queue", .meth "Memory" "block", .meth "Memory" "check_block", .meth "Memory" "check_cell", .meth "Memory" "check_device", .meth "Memory" "journal", .meth "Memory" "log", .meth "Memory" "peek", .mkr "Guard", .mkr "Memory", .glo "NotValid", .exc "NotValid", .exm "NotValid" "RingError" true, .noat "Memory" "count", .noat "Memory" "held", .noat "Memory" "guards", .noat "Memory" "stored", .noat "Memory" "journals", .noat "Memory" "rows", .noat "Guard" "kept", .noat "Guard" "waiting", .noat "Guard" "tickets", .glo "law"]
def ex : PySem.W.Frag → Bool := fun K => excCB K "NotValid"
theorem zex_NotValid {K : PySem.W.Frag} (h : ex K = true) : excCB K "NotValid" = true := h
abbrev R : PySem.W.OpenRow := PySem.W.OpenLaw.row PySem.Challenge.rw_ringbound_k01_cells
abbrev hk : PySem.W.Hook := hookX 4 fa fn ex
def ob (s : PySem.W.SharedT) : AlX := obsX 4 fa fn ex (HandSHeadRun.getT s)
theorem ob_eq (s : PySem.W.SharedT) : ob s = hk.obs s.abs := obsX_eq (HandSHeadRun.getT_eq s)
def names : List PySem.Str := (["RingError", "NotValid", "DEVICES", "PAGES", "FRAMES", "CELLS", "RIGHTS", "is_within", "is_word", "Guard", "BLOCKS", "REGISTERS", "RING_FRAMES", "FIRST_REGISTER", "FIRST_WORD", "FIRST_ACKNOWLEDGE", "ALL_CELLS", "SHAPES", "frame_cell", "doorbell", "reset", "ready", "interrupt", "table_word", "acknowledge", "is_register", "is_of_driver", "first_values", "Memory", "_law_tape"] : List PySem.Str) ++ (["_law_at", "_law_listed", "_law_told"] : List PySem.Str)
theorem run (w : World) : RbH.RunX R (PySem.W.view R.prog [37]) hk ob 4000 400000 20 names w := by
  refine PySem.W.byRow2 "special-get-raises" (P := fun w => RbH.RunX R (PySem.W.view R.prog [37]) hk ob 4000 400000 20 names w) ?_ ?_ w
  · intro w os
    kernel_rfl
  · intro w os
    kernel_rfl
theorem facts {P : Program} {w : World} {K : PySem.W.Frag} {h : Heap} {mg : Str → Option Value} {f : Addr} (X : K.In h) (G : h.Ns mainGlobals mg) (hfa : mg ("law" : Str) = some (.ref f)) (c : He.SaysD fa fn K) (hex : ex K = true) :
    ∃ fd : FuncData, (∀ (s : Shared) (v : Value), BindsTo s fd ⟨[v], []⟩ [("_law_script", v)]) ∧ ∀ base : Heap, K.In base → base.Ns mainGlobals mg → FnOk P w K mg base (L2.CX P w) 5 f fd ["_law_script"] (sp_law K) := by
  have e := hfa.symm.trans (He.glo_ok X G (c.fact 62 rfl))
  cases e
  have T : Tx K mg := ⟨He.free_ok X G (c.fact 0 rfl), He.free_ok X G (c.fact 1 rfl), He.free_ok X G (c.fact 2 rfl), He.free_ok X G (c.fact 3 rfl), He.free_ok X G (c.fact 4 rfl), He.free_ok X G (c.fact 5 rfl), He.free_ok X G (c.fact 6 rfl), He.free_ok X G (c.fact 7 rfl), He.free_ok X G (c.fact 8 rfl), He.int_ok X G (c.fact 9 rfl), He.int_ok X G (c.fact 10 rfl), He.int_ok X G (c.fact 11 rfl), He.int_ok X G (c.fact 12 rfl), He.int_ok X G (c.fact 13 rfl), He.int_ok X G (c.fact 14 rfl), He.int_ok X G (c.fact 15 rfl), He.int_ok X G (c.fact 16 rfl), He.int_ok X G (c.fact 17 rfl), He.int_ok X G (c.fact 18 rfl), He.int_ok X G (c.fact 19 rfl), He.cls_ok (c.fact 20 rfl), He.cls_ok (c.fact 21 rfl), excCB_ok (zex_NotValid hex), He.glo_ok X G (c.fact 22 rfl), He.glo_ok X G (c.fact 23 rfl), He.glo_ok X G (c.fact 24 rfl), He.glo_ok X G (c.fact 25 rfl), He.glo_ok X G (c.fact 26 rfl), He.glo_ok X G (c.fact 27 rfl), He.glo_ok X G (c.fact 28 rfl), He.glo_ok X G (c.fact 29 rfl), He.glo_ok X G (c.fact 30 rfl), He.glo_ok X G (c.fact 31 rfl), He.glo_ok X G (c.fact 32 rfl), He.glo_ok X G (c.fact 33 rfl), He.glo_ok X G (c.fact 34 rfl), He.glo_ok X G (c.fact 35 rfl), He.glo_ok X G (c.fact 36 rfl), He.glo_ok X G (c.fact 37 rfl), He.glo_ok X G (c.fact 38 rfl), He.meth_ok (c.fact 39 rfl), He.meth_ok (c.fact 40 rfl), He.meth_ok (c.fact 41 rfl), He.meth_ok (c.fact 42 rfl), He.meth_ok (c.fact 43 rfl), He.meth_ok (c.fact 44 rfl), He.meth_ok (c.fact 45 rfl), He.meth_ok (c.fact 46 rfl), He.meth_ok (c.fact 47 rfl), He.mkr_ok (c.fact 48 rfl), He.mkr_ok (c.fact 49 rfl), xOk_of (He.glo_ok X G (c.fact 50 rfl)) (c.fact 51 rfl)⟩
  have Z : Zx K := ⟨He.exm_ok (c.fact 52 rfl), ⟨He.cls_ok (c.fact 21 rfl), He.noat_ok (c.fact 53 rfl), He.noat_ok (c.fact 54 rfl), He.noat_ok (c.fact 55 rfl), He.noat_ok (c.fact 56 rfl), He.noat_ok (c.fact 57 rfl), He.noat_ok (c.fact 58 rfl), He.cls_ok (c.fact 20 rfl), He.noat_ok (c.fact 59 rfl), He.noat_ok (c.fact 60 rfl), He.noat_ok (c.fact 61 rfl)⟩⟩
  have ok_frame_cell : ∀ base : Heap, Okd P w K mg base 1 (He.fAd K ("frame_cell", none)) ["device", "frame", "index"] (sp_frame_cell K) := fun base => Rb01.ok_frame_cell T (c.def_ 0 (d := dd_frame_cell) rfl) 
  have ok_doorbell : ∀ base : Heap, Okd P w K mg base 1 (He.fAd K ("doorbell", none)) ["device"] (sp_doorbell K) := fun base => Rb01.ok_doorbell T (c.def_ 1 (d := dd_doorbell) rfl) 
  have ok_reset : ∀ base : Heap, Okd P w K mg base 2 (He.fAd K ("reset", none)) ["device"] (sp_reset K) := fun base => Rb01.ok_reset T (c.def_ 2 (d := dd_reset) rfl) (ok_doorbell base)
  have ok_ready : ∀ base : Heap, Okd P w K mg base 2 (He.fAd K ("ready", none)) ["device"] (sp_ready K) := fun base => Rb01.ok_ready T (c.def_ 3 (d := dd_ready) rfl) (ok_doorbell base)
  have ok_interrupt : ∀ base : Heap, Okd P w K mg base 2 (He.fAd K ("interrupt", none)) ["device"] (sp_interrupt K) := fun base => Rb01.ok_interrupt T (c.def_ 4 (d := dd_interrupt) rfl) (ok_doorbell base)
  have ok_table_word : ∀ base : Heap, Okd P w K mg base 1 (He.fAd K ("table_word", none)) ["device", "page"] (sp_table_word K) := fun base => Rb01.ok_table_word T (c.def_ 5 (d := dd_table_word) rfl) 
  have ok_acknowledge : ∀ base : Heap, Okd P w K mg base 1 (He.fAd K ("acknowledge", none)) ["device"] (sp_acknowledge K) := fun base => Rb01.ok_acknowledge T (c.def_ 6 (d := dd_acknowledge) rfl) 
  have ok_law_listed : ∀ base : Heap, Okd P w K mg base 3 (He.fAd K ("_law_listed", none)) [] (sp_law_listed K) := fun base => Rb01.ok_law_listed T (c.def_ 7 (d := dd_law_listed) rfl) (ok_frame_cell base) (ok_doorbell base) (ok_reset base) (ok_ready base) (ok_interrupt base) (ok_table_word base) (ok_acknowledge base)
  have ok_law_tape : ∀ base : Heap, Okd P w K mg base 1 (He.fAd K ("_law_tape", none)) ["_law_script"] (sp_law_tape K) := fun base => Rb01.ok_law_tape T (c.def_ 8 (d := dd_law_tape) rfl) 
  have ok_first_values : ∀ base : Heap, Okd P w K mg base 2 (He.fAd K ("first_values", none)) [] (sp_first_values K) := fun base => Rb01.ok_first_values T (c.def_ 9 (d := dd_first_values) rfl) (ok_frame_cell base) (ok_table_word base)
  have ok_Guard_init : ∀ base : Heap, Okd P w K mg base 1 (He.fAd K ("Guard", some "__init__")) ["self"] (sp_Guard_init K) := fun base => Rb01.ok_Guard_init T Z (c.def_ 10 (d := dd_Guard_init) rfl) 
  have ok_Memory_init : ∀ base : Heap, Okd P w K mg base 3 (He.fAd K ("Memory", some "__init__")) ["self"] (sp_Memory_init K) := fun base => Rb01.ok_Memory_init T Z (c.def_ 11 (d := dd_Memory_init) rfl) (ok_first_values base) (ok_Guard_init base)
  have ok_is_within : ∀ base : Heap, Okd P w K mg base 1 (He.fAd K ("is_within", none)) ["value", "low", "high"] (sp_is_within K) := fun base => Rb01.ok_is_within T (c.def_ 12 (d := dd_is_within) rfl) 
  have ok_Memory_check_cell : ∀ base : Heap, Okd P w K mg base 2 (He.fAd K ("Memory", some "check_cell")) ["self", "cell"] (sp_Memory_check_cell K) := fun base => Rb01.ok_Memory_check_cell T (c.def_ 13 (d := dd_Memory_check_cell) rfl) (ok_is_within base)
  have ok_Memory_peek : ∀ base : Heap, Okd P w K mg base 3 (He.fAd K ("Memory", some "peek")) ["self", "cell"] (sp_Memory_peek K) := fun base => Rb01.ok_Memory_peek T Z (c.def_ 14 (d := dd_Memory_peek) rfl) (ok_Memory_check_cell base)
  have ok_Memory_check_device : ∀ base : Heap, Okd P w K mg base 2 (He.fAd K ("Memory", some "check_device")) ["self", "device"] (sp_Memory_check_device K) := fun base => Rb01.ok_Memory_check_device T (c.def_ 15 (d := dd_Memory_check_device) rfl) (ok_is_within base)
  have ok_Memory_journal : ∀ base : Heap, Okd P w K mg base 3 (He.fAd K ("Memory", some "journal")) ["self", "device"] (sp_Memory_journal K) := fun base => Rb01.ok_Memory_journal T Z (c.def_ 16 (d := dd_Memory_journal) rfl) (ok_Memory_check_device base)
  have ok_Guard_entries : ∀ base : Heap, Okd P w K mg base 1 (He.fAd K ("Guard", some "entries")) ["self"] (sp_Guard_entries K) := fun base => Rb01.ok_Guard_entries T Z (c.def_ 17 (d := dd_Guard_entries) rfl) 
  have ok_Guard_queue : ∀ base : Heap, Okd P w K mg base 1 (He.fAd K ("Guard", some "queue")) ["self"] (sp_Guard_queue K) := fun base => Rb01.ok_Guard_queue T Z (c.def_ 18 (d := dd_Guard_queue) rfl) 
  have ok_Memory_check_block : ∀ base : Heap, Okd P w K mg base 2 (He.fAd K ("Memory", some "check_block")) ["self", "block"] (sp_Memory_check_block K) := fun base => Rb01.ok_Memory_check_block T (c.def_ 19 (d := dd_Memory_check_block) rfl) (ok_is_within base)
  have ok_Memory_block : ∀ base : Heap, Okd P w K mg base 3 (He.fAd K ("Memory", some "block")) ["self", "device", "block"] (sp_Memory_block K) := fun base => Rb01.ok_Memory_block T Z (c.def_ 20 (d := dd_Memory_block) rfl) (ok_Memory_check_device base) (ok_Memory_check_block base)
  have ok_law_at : ∀ base : Heap, Okd P w K mg base 1 (He.fAd K ("_law_at", none)) ["_law_tape_here", "_law_k"] (sp_law_at K) := fun base => Rb01.ok_law_at T (c.def_ 21 (d := dd_law_at) rfl) 
  have ok_law_told : ∀ base : Heap, Okd P w K mg base 4 (He.fAd K ("_law_told", none)) ["_law_memory", "_law_act", "_law_first", "_law_second"] (sp_law_told K) := fun base => Rb01.ok_law_told T Z (c.def_ 22 (d := dd_law_told) rfl) (ok_Memory_peek base) (ok_Memory_journal base) (ok_Memory_block base)
  have ok_Memory_log : ∀ base : Heap, Okd P w K mg base 1 (He.fAd K ("Memory", some "log")) ["self"] (sp_Memory_log K) := fun base => Rb01.ok_Memory_log T Z (c.def_ 23 (d := dd_Memory_log) rfl) 
  obtain ⟨fd, F⟩ := c.def_ 24 (d := dd_law) rfl
  have b := FunD.bindsA (ps := ["_law_script"]) F fun _ _ _ _ _ _ us hl => match us, hl with | [_], _ => rfl
  exact ⟨fd, fun s v => b s [v] rfl, fun base _ _ => Okd.fixD F (Rb01.ok_law T Z ⟨fd, F⟩ (ok_law_listed base) (ok_law_tape base) (ok_Memory_init base) (ok_Memory_peek base) (ok_Memory_journal base) (ok_Guard_entries base) (ok_Guard_queue base) (ok_Memory_block base) (ok_law_at base) (ok_law_told base) (ok_Memory_log base))⟩
end Rb01
open PySem PySem.W PySem.Calls PyProof.Rows
theorem PySem.Challenge.cw_ringbound_k01_cells_holds : PySem.Challenge.rw_ringbound_k01_cells.Holds := by
  w_on; o_law
  refine RbH.head_X (N := 400000) (i := 20) (r := OpenLaw.row PySem.Challenge.rw_ringbound_k01_cells) (q := view (OpenLaw.row PySem.Challenge.rw_ringbound_k01_cells).prog [37]) (H := Rb01.hk) (ob := Rb01.ob) (M := 4000) (loose := Rb01.names) (d := HandSHeadRun.topDef (OpenLaw.row PySem.Challenge.rw_ringbound_k01_cells).prog 37) (kwd := []) Rb01.ob_eq
    (by kernel_rfl) (by decide) (fun s => by kernel_rfl) Rb01.run (by kernel_rfl) (by kernel_rfl) (by kernel_rfl) (by rfl) (by first | assumption | decide +kernel) (by decide +kernel) ⟨rfl, rfl, rfl, rfl, rfl, by decide +kernel⟩ ?hw ?hc
  case hw => w_witness2
  case hc =>
    refine Rb.walk_ofX (l := PySem.Challenge.rw_ringbound_k01_cells) (n := 63) (k := 5) (x := "_law_script") rfl (by decide) (by kernel_rfl) ⟨rfl, by decide, by decide⟩ ?F
    intro w mg fa h Y G hmg0
    obtain ⟨K, KX, c, hex⟩ := Y
    have hmg : mg ("law" : PySem.Str) = some (.ref fa) := by
      have e : (HandSHeadRun.topDef (OpenLaw.row PySem.Challenge.rw_ringbound_k01_cells).prog 37).name = ("law" : PySem.Str) := by kernel_rfl
      rw [← e]
      exact hmg0
    obtain ⟨fd, hb, hF⟩ := Rb01.facts (P := (PySem.Challenge.rw_ringbound_k01_cells).prog) (w := w) KX G hmg c hex
    exact ⟨K, fd, Rb01.sp_law K, KX, hb, fun H a xs hl _ hS => ⟨a, xs, rfl, hl, hS, fun _ => rfl⟩, hF⟩

