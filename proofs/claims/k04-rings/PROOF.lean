import PyProof.Rows.All
import Wide.All
import OpenK.AllK
import Wide.FinOn
import PyProof.EqAt
import PyProof.EqKinds
import PyProof.TupleCall
import HandS.ForMost
import HandS.ForExc
import HandS.Conv
import HandS.TupMul
import HandS.TupAny
import HandS.Style
import HandS.Steps
import HandS.Deep
import HandS.IsInst
import HandS.Flow
import HandS.Defaults
import HandS.HeadHook1
import HandS.HeadHook2
import HandS.HeadEnd
import HandS.Head0
import HandS.Head1
import HandS.Head2
import KE.KStateDown
import HandS.ExcOwn
import HandS.ExcIs
import HandS.TryOnly
import PyProof.ExcBaseAll.ValueError
import PySem.Challenge.RW_ringbound_k04_rings
set_option Elab.async false
set_option linter.all false
set_option maxRecDepth 100000
set_option maxHeartbeats 4000000
/-! Rb: rules joined by cases, names for readings, the tactic rows of the walks. -/
namespace Rb
open PySem PySem.Spec PyProof.Rows L2
/-! ### names of readings -/
def rAddI : R2 := rI0 fun i j => .int (i + j)
def rSubI : R2 := rI0 fun i j => .int (i - j)
def rMulI : R2 := rI CMul fun i j => .int (i * j)
def rDivI : R2 := rI CDiv fun i j => .int (i / j)
def rModI : R2 := rI (fun _ j => 0 < j) fun i j => .int (i % j)
def rPowI : R2 := rI CPow fun i j => .int (i ^ j.toNat)
def rNegI : V → Hp → VK → Prop := rU fun i => .int (-i)
def rLtI : R2 := rI0 fun i j => .bl (decide (i < j))
def rLeI : R2 := rI0 fun i j => .bl (decide (i ≤ j))
def rGtI : R2 := rI0 fun i j => .bl (decide (j < i))
def rGeI : R2 := rI0 fun i j => .bl (decide (j ≤ i))
def rAddA (K : PySem.W.Frag) : R2 := fun x y H Q => rAddI x y H Q ∨ rCat x y H Q ∨ rCatA K x y H Q
def rMulA (K : PySem.W.Frag) : R2 := fun x y H Q => rMulI x y H Q ∨ rRep x y H Q ∨ rRepT K x y H Q
def rSlX (K : PySem.W.Frag) : V → Option Int → Option Int → Hp → VK → Prop := fun x lo hi H Q => rSlL K x lo hi H Q ∨ rSlA K x lo hi H Q
def rInA (K : PySem.W.Frag) : R2 := fun x y H Q => rIn K false x y H Q ∨ rInD K x y H Q
def rNiA (K : PySem.W.Frag) : R2 := fun x y H Q => rIn K true x y H Q ∨ rNotInD K x y H Q
def rLenA (K : PySem.W.Frag) : List V → Hp → VK → Prop := fun xs H Q => ∃ x n, xs = [x] ∧ LenV K x H n ∧ Q (.int n) H
def rAbsI : List V → Hp → VK → Prop := fun xs H Q => ∃ i, xs = [.int i] ∧ Q (.int (if i < 0 then -i else i)) H
def rIntC : List V → Hp → VK → Prop := fun xs H Q => (∃ i, xs = [.int i] ∧ Q (.int i) H) ∨ ∃ k, xs = [.bl k] ∧ Q (.int (if k then 1 else 0)) H
def rMin2 : List V → Hp → VK → Prop := fun xs H Q => ∃ i j, xs = [.int i, .int j] ∧ Q (.int (if j < i then j else i)) H
def rMax2 : List V → Hp → VK → Prop := fun xs H Q => ∃ i j, xs = [.int i, .int j] ∧ Q (.int (if j > i then j else i)) H
def rListC (K : PySem.W.Frag) : List V → Hp → VK → Prop := fun xs H Q => ∃ p ys, xs = [.ref p] ∧ (SqL K H p ys ∨ SqT K H p ys) ∧ ∀ l, H l = none → Q (.ref l) (upd H l (.lst ys))
def rTupC (K : PySem.W.Frag) : List V → Hp → VK → Prop := fun xs H Q => ∃ p ys, xs = [.ref p] ∧ ((SqL K H p ys ∧ ∀ l, H l = none → Q (.ref l) (upd H l (.tup ys))) ∨ (SqT K H p ys ∧ Q (.ref p) H))
section
variable {X : Cx}
theorem op_addA : OpR X (binaryOp .Add) (rAddA X.K) := OpR.or op_add (OpR.or op_cat op_catA)
theorem op_mulA : OpR X (binaryOp .Mult) (rMulA X.K) := OpR.or op_mul (OpR.or op_rep op_repT)
theorem op_subN : OpR X (binaryOp .Sub) rSubI := op_sub
theorem op_divN : OpR X (binaryOp .FloorDiv) rDivI := op_fdiv
theorem op_modI : OpR X (binaryOp .Mod) rModI := op_mod
theorem op_powI : OpR X (binaryOp .Pow) rPowI := op_pow
theorem un_negI : UnR X (unaryOp .USub) rNegI := un_neg
theorem op_ltI : OpR X (compareOp .Lt) rLtI := op_lt
theorem op_leI : OpR X (compareOp .LtE) rLeI := op_le
theorem op_gtI : OpR X (compareOp .Gt) rGtI := op_gt
theorem op_geI : OpR X (compareOp .GtE) rGeI := op_ge
theorem sl_A : SlR X (rSlX X.K) := SlR.or sl_list sl_tupA
theorem op_inA (hu : X.A.units + 65 < cLine) : OpR X (compareOp .In) (rInA X.K) := OpR.or op_in_seq (op_inD hu)
theorem op_niA (hu : X.A.units + 65 < cLine) : OpR X (compareOp .NotIn) (rNiA X.K) := OpR.or op_notIn_seq (op_notInD hu)
theorem cr_len : CallR X (.builtin "len") (rLenA X.K) := call_len
theorem cr_abs : CallR X (.builtin "abs") rAbsI := call_abs
theorem cr_int : CallR X (.type "int") rIntC := call_int1
theorem cr_min2 (hc : X.calm = true) : CallR X (.builtin "min") rMin2 := call_min2 hc
theorem cr_max2 (hc : X.calm = true) : CallR X (.builtin "max") rMax2 := call_max2 hc
theorem cr_list : CallR X (.type "list") (rListC X.K) := call_list_of
theorem cr_tup : CallR X (.type "tuple") (rTupC X.K) := call_tuple_of
theorem cr_isi : CallR X (.builtin "isinstance") (rIsi X.K) := call_isi
theorem pt_tru {a : Expr} {ta : TE} (ha : PE X a ta) (he : ∀ whole, isTrue a X.env whole = (do let v ← whole; standAt a.pos; holding [v] (truthy v)) := by intro _; rfl) : PT X a (tTru X.K ta) := pt_truth ha he
theorem pe_gint {x : Str} {i : Int} {pos : Pos} (hg : Gl X x) (hm : ∃ t, X.mg x = some (.int i t)) (hd : (x == ("__debug__" : Str)) = false := by decide) : PE X (.Name x pos) (tC (.int i)) := by
  obtain ⟨t, e⟩ := hm
  exact pe_glob hg e ⟨t, rfl⟩ hd
/-! ### l[i] as a place of l[i] op= e -/
def rGetL (K : PySem.W.Frag) : V → V → Hp → VK → Prop := fun x y H Q => ∃ p xs i v, x = .ref p ∧ y = .int i ∧ SqL K H p xs ∧ 0 ≤ i ∧ xs[i.toNat]? = some v ∧ Q v H
theorem get_list : PGet X (rGetL X.K) := by
  intro pins s σ H o i ov iv Q I ro ri h
  obtain ⟨p, xs, k, v, rfl, rfl, hp, hk, hx, q⟩ := h
  cases ro
  obtain ⟨t, rfl⟩ := ri
  obtain ⟨its, r, pl, hz⟩ := I.list hp
  obtain ⟨w, ew, rw'⟩ := r.get hx
  have hlt : k.toNat < xs.length := (List.getElem?_eq_some_iff.mp hx).1
  have hn := line63
  have hl := r.length
  refine wpAny_getItem_list pl.isList hk (by omega) (by simpa using ew) ⟨v, H, I, rw', q⟩
end
/-! ### a word between a statement and the rest -/
def tCut (t u : TS) : TS := fun D σ H => ∃ Mid : L2.St → Hp → Prop, t { D with nx := Mid } σ H ∧ ∀ σ' H', Mid σ' H' → u D σ' H'
theorem pss_cut {X : Cx} {st : Stmt} {rest : List Stmt} {t u : TS} (h1 : PS X st t) (h2 : PSs X rest u) : PSs X (st :: rest) (tCut t u) := by
  refine ⟨fun pins s σ H D I h => ?_⟩
  obtain ⟨Mid, hm, hu⟩ := h
  refine wpAny_execs_cons (thn (h1.run pins s σ H { D with nx := Mid } I hm) fun f s1 q => ?_)
  cases f with
  | next =>
    obtain ⟨σ', H', I', q⟩ := q
    exact h2.run pins s1 σ' H' D I' (hu σ' H' q)
  | ret v => exact q
  | brk => exact q
  | cont => exact q
/-! ### a def of the text with its arguments -/
/-- a def keeps its promise at f, with its arguments' binding -/
def Okd (P : Program) (w : World) (K : PySem.W.Frag) (mg : Str → Option Value) (base : Heap) (k : Nat) (f : Addr) (ps : List Str) (sp : Sp) : Prop :=
  ∃ fd, FnOk P w K mg base (L2.CX P w) k f fd ps sp ∧ Binds K fd ps [] ∧ PySem.W.keepIn K (.ref f) = true ∧ ∃ oc od osl, K.lookup f = some ⟨oc, od, .func fd, osl⟩
theorem Okd.of {P : Program} {w : World} {K : PySem.W.Frag} {mg : Str → Option Value} {base : Heap} {x qual : Str} {st : Stmt} {f : Addr} {N ps : List Str} {k : Nat} {sp : Sp}
    (hF : ∃ fd, FunD K x qual (defArgs st) (defBody st) (defScope st) [] [] f fd) (S : FnScope N ps (defScope st)) (len : ∀ vs H Q E, sp vs H Q E → vs.length = ps.length)
    (hb : ∀ (kV doc pm : Value) (an : Option Addr) (cdv ct : Value) (us : List Value), us.length = ps.length → bindArgs (PySem.W.fnOf x qual (defArgs st) (defBody st) (defScope st) .none kV doc pm an cdv ct) ⟨us, []⟩ = pure (ps.zip us))
    {t : XK → TS} (hbody : ∀ (cdv : Value) (A : Around) (outer : List Env) (s : Shared) (H : Hp) (E : XK), Room k (A.deeper (envOfC qual (defScope st) s.heap.objs.size f cdv)) →
      PSs (cxOf (L2.CX P w) P w K mg base N qual (defScope st) f cdv A outer s H E) (defBody st) (t E))
    (pure_ : ∀ vs H Q E, sp vs H Q E → t E { nx := fun _ H' => Q .non H', rt := Q } (start N vs) H) : Okd P w K mg base (k + 1) f ps sp := by
  obtain ⟨fd, F⟩ := hF
  refine ⟨fd, F.ok S len fun cdv A outer s H vs Q E hr h => ⟨t E, hbody cdv A outer s H E hr, pure_ vs H Q E h⟩, F.bindsN hb, F.kp, ?_⟩
  obtain ⟨oc, od, dV, kV, doc, pm, an, cdv, ct, osl, rfl, lk, _, _, _⟩ := F.ex
  exact ⟨oc, od, osl, lk⟩
theorem Okd.fixD {P : Program} {w : World} {K : PySem.W.Frag} {mg : Str → Option Value} {base : Heap} {x qual : Str} {params : Arguments} {body : List Stmt} {scope : Scope} {f : Addr} {ps : List Str} {k : Nat} {sp : Sp} {fd : FuncData} {dvs : List V} {kws : List (Str × V)}
    (F : FunD K x qual params body scope dvs kws f fd) (h : Okd P w K mg base k f ps sp) : FnOk P w K mg base (L2.CX P w) k f fd ps sp := by
  obtain ⟨oc, od, dV, kV, doc, pm, an, cdv, ct, osl, rfl, lk, _, _, _⟩ := F.ex
  obtain ⟨fd', G, _, _, oc', od', osl', lk'⟩ := h
  rw [lk] at lk'
  injection lk' with z
  injection z with _ _ z _
  injection z with z
  rw [z]
  exact G
theorem Okd.mono {P : Program} {w : World} {K : PySem.W.Frag} {mg : Str → Option Value} {base : Heap} {j k : Nat} {f : Addr} {ps : List Str} {sp : Sp} (h : Okd P w K mg base j f ps sp) (hk : j ≤ k) : Okd P w K mg base k f ps sp := by
  obtain ⟨fd, F, b, kp, lk⟩ := h
  exact ⟨fd, F.mono hk, b, kp, lk⟩
/-! ### the law's call, where an exception may be in the air within -/
theorem walk_ofX {l : PySem.W.OpenLaw} {n k : Nat} {q : Program} {loose : List Str} {XP : (Str → Option Value) → Heap → Prop} {YP : World → Heap → Prop} {d : DefRec} {x : Str}
    (hn : l.most = some n) (hn2 : n ≤ sizeLine) (hdf : d.params.defaults = []) (hr : Room k callerA)
    (F : ∀ (w : World) (mg : Str → Option Value) (fa : Addr) (h : Heap), YP w h → h.Ns mainGlobals mg → mg d.name = some (.ref fa) →
      ∃ (K : PySem.W.Frag) (fd : FuncData) (sp : Sp), K.In h ∧ (∀ (s : Shared) (u : Value), BindsTo s fd ⟨[u], []⟩ [(x, u)]) ∧
        (∀ (H : Hp) (a : Addr) (ns : List Int), ns.length ≤ n → Only H → SqL K H a (ns.map V.int) → sp [.ref a] H (fun v _ => v = .bl true) fun _ _ _ => False) ∧
        ∀ base : Heap, K.In base → base.Ns mainGlobals mg → FnOk l.prog w K mg base (L2.CX l.prog w) k fa fd [x] sp) :
    PySem.W.WalkO q loose XP YP l.row.toRowW d [] (fun f vs => PySem.call f vs) := by
  refine Att.attach_call hn hdf fun w s₀ s₁ mg mb fa o pm cd doc a vs ns G Y ho hd hcd hmg hobj hints hlen hg => ?_
  obtain ⟨K, fd, sp, KX, hb, hsp, hF⟩ := F w mg fa _ Y G.T.g hmg
  exact law_call KX G.T.g G.T.b G.T.builtins G.T.nolimit hg hobj hints (Nat.le_trans hlen hn2) hr hF hb (fun H hO hS => hsp H a ns hlen hO hS) fun H e s' ⟨_, _, _, _, _, _, _, _, _, _, _, _, z⟩ => z
end Rb
/-! Rb: readings, one step at a time (i_*). -/
namespace Rb
open PySem PySem.Spec PyProof.Rows L2
variable {K : PySem.W.Frag} {σ : L2.St} {H H1 H2 : Hp} {D : Ends} {Q : VK} {QB : Bool → Hp → Prop} {QA : List V → Hp → Prop} {E : XK}
/-! ### statements -/
theorem i_seq {t u : TS} (h : t { D with nx := u D } σ H) : tSeq t u D σ H := h
theorem i_cut {t u : TS} (M : L2.St → Hp → Prop) (h : t { D with nx := M } σ H) (k : ∀ σ' H', M σ' H' → u D σ' H') : tCut t u D σ H := ⟨M, h, k⟩
theorem i_asg {te : TE} {g : TG} (h : te σ H fun x H1 => g x σ H1 D.nx) : tAsg te g D σ H := h
theorem i_gname {i : Nat} {v : V} {R : L2.St → Hp → Prop} (h : R (σ.set i (some v)) H) : gName i v σ H R := h
theorem i_gsub {to ti : TE} {t : TSet} {v : V} {R : L2.St → Hp → Prop} (h : to σ H fun o H1 => ti σ H1 fun i H2 => t o i v H2 fun H3 => R σ H3) : gSub to ti t v σ H R := h
theorem i_gtup {n : Nat} {t : TGs} {a : Addr} {xs : List V} {R : L2.St → Hp → Prop} (hq : SqT K H a xs) (hl : xs.length = n) (h : t xs σ H R) : gTup K n t (.ref a) σ H R := ⟨a, xs, rfl, hq, hl, h⟩
theorem i_gnil {R : L2.St → Hp → Prop} (h : R σ H) : gNil [] σ H R := ⟨rfl, h⟩
theorem i_gcons {t : TG} {u : TGs} {v : V} {r : List V} {R : L2.St → Hp → Prop} (h : t v σ H fun σ' H' => u r σ' H' R) : gCons t u (v :: r) σ H R := ⟨v, r, rfl, h⟩
theorem i_ret {te : TE} (h : te σ H D.rt) : tRet te D σ H := h
theorem i_retN (h : D.rt .non H) : tRetN D σ H := h
theorem i_next (h : D.nx σ H) : tNext D σ H := h
theorem i_cont (h : D.ct σ H) : tCont D σ H := h
theorem i_break (h : D.bk σ H) : tBreak D σ H := h
theorem i_drop {te : TE} (h : te σ H fun _ H1 => D.nx σ H1) : tDrop te D σ H := h
theorem i_ifS {c : TT} {t u : TS} (h : c σ H fun b H1 => if b = true then t D σ H1 else u D σ H1) : tIfS c t u D σ H := h
theorem i_setL {p : Addr} {xs : List V} {k : Int} {j : Nat} {v : V} {R : Hp → Prop} (hp : H p = some (.lst xs)) (hj : ixN xs.length k = some j) (h : R (upd H p (.lst (xs.set j v)))) : rSetL (.ref p) (.int k) v H R := ⟨p, xs, k, j, rfl, rfl, hp, hj, h⟩
theorem i_augS {to ti te : TE} {tget : V → V → Hp → VK → Prop} {tip : TIp} {tset : TSet} (h : to σ H fun o H1 => ti σ H1 fun i H2 => tget o i H2 fun x H3 => te σ H3 fun y H4 => tip x y H4 fun z H5 => tset o i z H5 fun H6 => D.nx σ H6) : tAugS to ti te tget tip tset D σ H := h
theorem i_getL {p : Addr} {xs : List V} {i : Int} {v : V} (hp : SqL K H p xs) (h0 : 0 ≤ i) (hv : xs[i.toNat]? = some v) (q : Q v H) : rGetL K (.ref p) (.int i) H Q := ⟨p, xs, i, v, rfl, rfl, hp, h0, hv, q⟩
theorem i_ipI {f : Int → Int → Int} {i j : Int} (q : Q (.int (f i j)) H) : ipI f (.int i) (.int j) H Q := ⟨i, j, rfl, rfl, q⟩
theorem i_aug {i : Nat} {te : TE} {ti : TIp} {x : V} (hx : σ[i]? = some (some x)) (h : te σ H fun y H1 => ti x y H1 fun z H2 => D.nx (σ.set i (some z)) H2) : tAug i te ti D σ H := ⟨x, hx, h⟩
theorem i_sfld {ta tv : TE} {f : Str} (h : tv σ H fun y H1 => ta σ H1 fun x H2 => ∃ a C dx fs, x = .ref a ∧ H2 a = some (.ins C dx fs) ∧ Cls K C ∧ NoAttr K C f ∧ fs.length < 1000 ∧ D.nx σ (upd H2 a (.ins C dx (putF f y fs)))) : sFld K ta tv f D σ H := h
theorem i_sfldIn {a C dx : Addr} {fs : List (Str × V)} {f : Str} {y : V} (h : H a = some (.ins C dx fs)) (c : Cls K C) (n : NoAttr K C f) (l : fs.length < 1000) (q : D.nx σ (upd H a (.ins C dx (putF f y fs)))) :
    ∃ a' C dx fs, V.ref a = .ref a' ∧ H a' = some (.ins C dx fs) ∧ Cls K C ∧ NoAttr K C f ∧ fs.length < 1000 ∧ D.nx σ (upd H a' (.ins C dx (putF f y fs))) := ⟨a, C, dx, fs, rfl, h, c, n, l, q⟩
/-! ### expressions -/
theorem i_var {i : Nat} {v : V} (h : σ[i]? = some (some v)) (q : Q v H) : tVar i σ H Q := ⟨v, h, q⟩
theorem i_c {v : V} (q : Q v H) : tC v σ H Q := q
theorem i_op {r : R2} {ta tb : TE} (h : ta σ H fun x H1 => tb σ H1 fun y H2 => r x y H2 Q) : tOp r ta tb σ H Q := h
theorem i_un {r : V → Hp → VK → Prop} {ta : TE} (h : ta σ H fun x H1 => r x H1 Q) : tUn r ta σ H Q := h
theorem i_neg {i : Int} (q : Q (.int (-i)) H) : rNegI (.int i) H Q := ⟨i, rfl, q⟩
theorem i_nil (q : QA [] H) : tNil σ H QA := q
theorem i_cons {ta : TE} {tr : TA} (h : ta σ H fun x H1 => tr σ H1 fun xs H2 => QA (x :: xs) H2) : tCons ta tr σ H QA := h
theorem i_tup {t : TA} (h : t σ H fun xs H1 => xs.length ≤ sizeLine ∧ ∀ p, H1 p = none → Q (.ref p) (upd H1 p (.tup xs))) : tTup t σ H Q := h
theorem i_lst {t : TA} (h : t σ H fun xs H1 => xs.length ≤ sizeLine ∧ ∀ p, H1 p = none → Q (.ref p) (upd H1 p (.lst xs))) : tLst t σ H Q := h
theorem i_cb {r : List V → Hp → VK → Prop} {t : TA} (h : t σ H fun vs H1 => r vs H1 Q) : tCB r t σ H Q := h
theorem i_bm {T : String} {r : V → List V → Hp → VK → Prop} {to : TE} {t : TA} (h : to σ H fun x H1 => tyV K T x H1 ∧ t σ H1 fun xs H2 => r x xs H2 Q) : tBM K T r to t σ H Q := h
theorem i_bm0 {T : String} {r : V → List V → Hp → VK → Prop} {to : TE} (h : to σ H fun x H1 => tyV K T x H1 ∧ r x [] H1 Q) : tBM0 K T r to σ H Q := h
theorem i_fld {ta : TE} {f : Str} (h : ta σ H fun x H1 => ∃ a C dx fs v, x = .ref a ∧ H1 a = some (.ins C dx fs) ∧ Cls K C ∧ NoAttr K C f ∧ fs.lookup f = some v ∧ Q v H1) : tFld K ta f σ H Q := h
theorem i_fldIn {a C dx : Addr} {fs : List (Str × V)} {f : Str} {v : V} (h : H a = some (.ins C dx fs)) (c : Cls K C) (n : NoAttr K C f) (l : fs.lookup f = some v) (q : Q v H) :
    ∃ a' C dx fs v, V.ref a = .ref a' ∧ H a' = some (.ins C dx fs) ∧ Cls K C ∧ NoAttr K C f ∧ fs.lookup f = some v ∧ Q v H := ⟨a, C, dx, fs, v, rfl, h, c, n, l, q⟩
theorem i_sl {r : V → Option Int → Option Int → Hp → VK → Prop} {te : TE} {tl th : TO} (h : te σ H fun x H1 => tl σ H1 fun l H2 => th σ H2 fun u H3 => r x l u H3 Q) : tSl r te tl th σ H Q := h
theorem i_nopart {R : Option Int → Hp → Prop} (q : R none H) : tNoPart σ H R := q
theorem i_part {t : TE} {R : Option Int → Hp → Prop} (h : t σ H fun x H1 => ∃ i, x = .int i ∧ R (some i) H1) : tPart t σ H R := h
theorem i_partIn {i : Int} {R : Int → Prop} (q : R i) : ∃ j, V.int i = .int j ∧ R j := ⟨i, rfl, q⟩
theorem i_chain {r r' : R2} {ta tb tc : TE} (h : ta σ H fun x H1 => tb σ H1 fun y H2 => r x y H2 fun z H3 => ∃ k, z = .bl k ∧ (if k = true then tc σ H3 fun w' H4 => r' y w' H4 Q else Q (.bl false) H3)) : tChain r r' ta tb tc σ H Q := h
theorem i_andV {ta tb : TE} (h : ta σ H fun x H1 => ∃ c, x = .bl c ∧ if c = true then tb σ H1 Q else Q (.bl false) H1) : tAndV ta tb σ H Q := h
theorem i_orV {ta tb : TE} (h : ta σ H fun x H1 => ∃ c, x = .bl c ∧ if c = true then Q (.bl true) H1 else tb σ H1 Q) : tOrV ta tb σ H Q := h
theorem i_notV {ta : TE} (h : ta σ H fun x H1 => ∃ c, x = .bl c ∧ Q (.bl (!c)) H1) : tNotV ta σ H Q := h
theorem i_test {t : TE} (h : t σ H fun x H' => ∃ k, x = .bl k ∧ QB k H') : tTest t σ H QB := h
theorem i_B {t : TE} (h : t σ H fun x H' => ∃ k, x = .bl k ∧ QB k H') : tB t σ H QB := h
theorem i_tru {ta : TE} (h : ta σ H fun x H' => ∃ k, TruV K x H' k ∧ QB k H') : tTru K ta σ H QB := h
theorem i_truB {b : Bool} {R : Bool → Prop} (q : R b) : ∃ k, TruV K (.bl b) H k ∧ R k := ⟨b, rfl, q⟩
theorem i_truL {a : Addr} {xs : List V} {R : Bool → Prop} (h : SqL K H a xs) (q : R (!xs.isEmpty)) : ∃ k, TruV K (.ref a) H k ∧ R k := ⟨_, .inl ⟨xs, h, rfl⟩, q⟩
theorem i_truD {a : Addr} {kvs : List (Key × V)} {R : Bool → Prop} (h : H a = some (.dK kvs)) (q : R (!kvs.isEmpty)) : ∃ k, TruV K (.ref a) H k ∧ R k := ⟨_, .inr (.inr ⟨kvs, h, rfl⟩), q⟩
theorem i_bl {b : Bool} {R : Bool → Hp → Prop} (q : R b H) : ∃ k, V.bl b = .bl k ∧ R k H := ⟨b, rfl, q⟩
theorem i_blC {b : Bool} {R : Bool → Prop} (q : R b) : ∃ k, V.bl b = .bl k ∧ R k := ⟨b, rfl, q⟩
theorem i_not {t : TT} (h : t σ H fun c H1 => QB (!c) H1) : tNot t σ H QB := h
theorem i_and {t u : TT} (h : t σ H fun c H1 => if c = true then u σ H1 QB else QB false H1) : tAnd t u σ H QB := h
theorem i_or {t u : TT} (h : t σ H fun c H1 => if c = true then QB true H1 else u σ H1 QB) : tOr t u σ H QB := h
theorem i_if {t : TT} {ta tb : TE} (h : t σ H fun c H1 => if c = true then ta σ H1 Q else tb σ H1 Q) : tIf t ta tb σ H Q := h
theorem i_call {sp : Sp} {E' : XK} {t : TA} (h : t σ H fun vs H1 => sp (vs ++ []) H1 Q E') : tCall sp [] E' t σ H Q := h
theorem i_meth {C : Addr} {m : Str} {sp : Sp} {E' : XK} {ta : TE} {t : TA} (h : ta σ H fun x H1 => ∃ a dx fs, x = .ref a ∧ H1 a = some (.ins C dx fs) ∧ fs.lookup m = none ∧ t σ H1 fun vs H2 => sp (x :: (vs ++ [])) H2 Q E') : tMeth C m sp [] E' ta t σ H Q := h
theorem i_methIn {C a dx : Addr} {fs : List (Str × V)} {m : Str} {R : Prop} (h : H a = some (.ins C dx fs)) (l : fs.lookup m = none) (q : R) : ∃ a' dx fs, V.ref a = .ref a' ∧ H a' = some (.ins C dx fs) ∧ fs.lookup m = none ∧ R := ⟨a, dx, fs, rfl, h, l, q⟩
theorem i_make {C : Addr} {sp : Sp} {E' : XK} {t : TA} (h : t σ H fun vs H1 => ∀ x dx, H1 x = none → H1 dx = none → dx ≠ x → sp (.ref x :: (vs ++ [])) (upd (upd H1 dx (.own x)) x (.ins C dx [])) (fun v H2 => v = .non ∧ Q (.ref x) H2) E') : tMake C sp [] E' t σ H Q := h
theorem i_dnew (h : ∀ p, H p = none → Q (.ref p) (upd H p (.dK []))) : tDNewK σ H Q := h
theorem i_dget2 {td ty tx : TE} (h : td σ H fun x H1 => ∃ a, x = .ref a ∧ IsD H1 a ∧ ty σ H1 fun y H2 => tx σ H2 fun z H3 => ∃ o, DGet H3 a y o ∧ Q (o.getD z) H3) : tDGet2 td ty tx σ H Q := h
theorem i_din {td ty : TE} (h : ty σ H fun y H1 => td σ H1 fun x H2 => ∃ a o, x = .ref a ∧ DGet H2 a y o ∧ Q (.bl o.isSome) H2) : tDIn ty td σ H Q := h
theorem i_dput {td ty tv : TE} (h : tv σ H fun v H1 => td σ H1 fun x H2 => ty σ H2 fun y H3 => ∃ a H4, x = .ref a ∧ DPut H3 a y v H4 ∧ D.nx σ H4) : sDPut td ty tv D σ H := h
/-! ### operations on values -/
theorem i_addI {i j : Int} (q : Q (.int (i + j)) H) : rAddA K (.int i) (.int j) H Q := .inl ⟨i, j, rfl, rfl, q⟩
theorem i_addL {a b : Addr} {xs ys : List V} (ha : H a = some (.lst xs)) (hb : H b = some (.lst ys)) (hl : xs.length + ys.length ≤ sizeLine) (q : ∀ p, H p = none → Q (.ref p) (upd H p (.lst (xs ++ ys)))) : rAddA K (.ref a) (.ref b) H Q :=
  .inr (.inl ⟨a, b, xs, ys, rfl, rfl, ha, hb, hl, q⟩)
theorem i_addT {a b : Addr} {xs ys : List V} (ha : SqT K H a xs) (hb : SqT K H b ys) (hl : xs.length + ys.length ≤ sizeLine) (q1 : xs = [] → Q (.ref b) H) (q2 : xs ≠ [] → ys = [] → Q (.ref a) H)
    (q : xs ≠ [] → ys ≠ [] → ∀ p, H p = none → Q (.ref p) (upd H p (.tup (xs ++ ys)))) : rAddA K (.ref a) (.ref b) H Q := .inr (.inr ⟨a, b, xs, ys, rfl, rfl, ha, hb, hl, q1, q2, q⟩)
theorem i_addI2 {i j : Int} (q : Q (.int (i + j)) H) : rAdd (.int i) (.int j) H Q := ⟨i, j, rfl, rfl, q⟩
theorem i_subI {i j : Int} (q : Q (.int (i - j)) H) : rSubI (.int i) (.int j) H Q := ⟨i, j, rfl, rfl, q⟩
theorem i_mulI {i j : Int} (c : CMul i j) (q : Q (.int (i * j)) H) : rMulA K (.int i) (.int j) H Q := .inl ⟨i, j, rfl, rfl, c, q⟩
theorem i_repL {a : Addr} {k : Int} {xs : List V} (h : H a = some (.lst xs)) (h1 : -(2 ^ 63) ≤ k) (h2 : k < 2 ^ 63) (hz : xs.length * k.toNat ≤ sizeLine) (q : ∀ p, H p = none → Q (.ref p) (upd H p (.lst (List.replicate k.toNat xs).flatten))) :
    rMulA K (.ref a) (.int k) H Q := .inr (.inl ⟨a, k, xs, rfl, rfl, h, h1, h2, hz, q⟩)
theorem i_repT {a : Addr} {k : Int} {xs : List V} (h : SqT K H a xs) (hn : xs ≠ []) (h1 : 2 ≤ k) (h2 : k ≤ 1000) (hz : xs.length ≤ 1000) (q : ∀ p, H p = none → Q (.ref p) (upd H p (.tup (List.replicate k.toNat xs).flatten))) :
    rMulA K (.ref a) (.int k) H Q := .inr (.inr ⟨a, k, xs, rfl, rfl, h, hn, h1, h2, hz, q⟩)
theorem i_divI {i j : Int} (c : CDiv i j) (q : Q (.int (i / j)) H) : rDivI (.int i) (.int j) H Q := ⟨i, j, rfl, rfl, c, q⟩
theorem i_modI {i j : Int} (c : 0 < j) (q : Q (.int (i % j)) H) : rModI (.int i) (.int j) H Q := ⟨i, j, rfl, rfl, c, q⟩
theorem i_powI {i j : Int} (c : CPow i j) (q : Q (.int (i ^ j.toNat)) H) : rPowI (.int i) (.int j) H Q := ⟨i, j, rfl, rfl, c, q⟩
theorem i_ltI {i j : Int} (q : Q (.bl (decide (i < j))) H) : rLtI (.int i) (.int j) H Q := ⟨i, j, rfl, rfl, q⟩
theorem i_leI {i j : Int} (q : Q (.bl (decide (i ≤ j))) H) : rLeI (.int i) (.int j) H Q := ⟨i, j, rfl, rfl, q⟩
theorem i_gtI {i j : Int} (q : Q (.bl (decide (j < i))) H) : rGtI (.int i) (.int j) H Q := ⟨i, j, rfl, rfl, q⟩
theorem i_geI {i j : Int} (q : Q (.bl (decide (j ≤ i))) H) : rGeI (.int i) (.int j) H Q := ⟨i, j, rfl, rfl, q⟩
theorem i_isN {x : V} (q : Q (.bl (decide (x = .non))) H) : rIsN x .non H Q := ⟨rfl, q⟩
theorem i_notN {x : V} (q : Q (.bl (!decide (x = .non))) H) : rNotN x .non H Q := ⟨rfl, q⟩
theorem i_isB {a b : Bool} (q : Q (.bl (decide (a = b))) H) : rIsB (.bl a) (.bl b) H Q := ⟨a, b, rfl, rfl, q⟩
theorem i_notB {a b : Bool} (q : Q (.bl (!decide (a = b))) H) : rNotB (.bl a) (.bl b) H Q := ⟨a, b, rfl, rfl, q⟩
theorem i_ixL {p : Addr} {xs : List V} {i : Int} {v : V} (h : SqL K H p xs) (ha : atI xs i = some v) (q : Q v H) : rIx K (.ref p) (.int i) H Q := .inl ⟨p, xs, i, v, rfl, rfl, h, ha, q⟩
theorem i_ixT {p : Addr} {xs : List V} {i : Int} {v : V} (h : SqT K H p xs) (ha : atI xs i = some v) (q : Q v H) : rIx K (.ref p) (.int i) H Q := .inr (.inl ⟨p, xs, i, v, rfl, rfl, h, ha, q⟩)
theorem i_ixLn {p : Addr} {xs : List V} {i : Int} {v : V} (h : SqL K H p xs) (h0 : 0 ≤ i) (ha : xs[i.toNat]? = some v) (q : Q v H) : rIx K (.ref p) (.int i) H Q := i_ixL h (by rw [show i = ((i.toNat : Nat) : Int) by omega, atI_nat]; exact ha) q
theorem i_ixTn {p : Addr} {xs : List V} {i : Int} {v : V} (h : SqT K H p xs) (h0 : 0 ≤ i) (ha : xs[i.toNat]? = some v) (q : Q v H) : rIx K (.ref p) (.int i) H Q := i_ixT h (by rw [show i = ((i.toNat : Nat) : Int) by omega, atI_nat]; exact ha) q
theorem i_eqD {x y : V} {d e : PyData} (hd : Dp K H x d) (he : Dp K H y e) (sd : SeqAt.shaped d = true) (se : SeqAt.shaped e = true) (q : Q (.bl (PyData.eqv d e)) H) : rEqD K x y H Q := ⟨d, e, hd, he, sd, se, q⟩
theorem i_neD {x y : V} {d e : PyData} (hd : Dp K H x d) (he : Dp K H y e) (sd : SeqAt.shaped d = true) (se : SeqAt.shaped e = true) (q : Q (.bl (!PyData.eqv d e)) H) : rNeD K x y H Q := ⟨d, e, hd, he, sd, se, q⟩
theorem i_eqI {i j : Int} (q : Q (.bl (i == j)) H) : rEqD K (.int i) (.int j) H Q := ⟨.int i, .int j, .int i, .int j, rfl, rfl, q⟩
theorem i_neI {i j : Int} (q : Q (.bl (!(i == j))) H) : rNeD K (.int i) (.int j) H Q := ⟨.int i, .int j, .int i, .int j, rfl, rfl, q⟩
theorem i_eqS {i j : Str} (hi : SeqAt.shaped (.str i) = true) (hj : SeqAt.shaped (.str j) = true) (q : Q (.bl (i == j)) H) : rEqD K (.str i) (.str j) H Q := ⟨.str i, .str j, .str i, .str j, hi, hj, q⟩
theorem i_neS {i j : Str} (hi : SeqAt.shaped (.str i) = true) (hj : SeqAt.shaped (.str j) = true) (q : Q (.bl (!(i == j))) H) : rNeD K (.str i) (.str j) H Q := ⟨.str i, .str j, .str i, .str j, hi, hj, q⟩
theorem i_eqB {i j : Bool} (q : Q (.bl (i == j)) H) : rEqD K (.bl i) (.bl j) H Q := ⟨.bool i, .bool j, .bl i, .bl j, rfl, rfl, q⟩
theorem i_neB {i j : Bool} (q : Q (.bl (!(i == j))) H) : rNeD K (.bl i) (.bl j) H Q := ⟨.bool i, .bool j, .bl i, .bl j, rfl, rfl, q⟩
theorem i_lenL {p : Addr} {xs : List V} (h : SqL K H p xs) (q : Q (.int (xs.length : Int)) H) : rLenA K [.ref p] H Q := ⟨_, xs.length, rfl, .inl ⟨xs, h, rfl⟩, q⟩
theorem i_lenT {p : Addr} {xs : List V} (h : SqT K H p xs) (q : Q (.int (xs.length : Int)) H) : rLenA K [.ref p] H Q := ⟨_, xs.length, rfl, .inr ⟨xs, h, rfl⟩, q⟩
theorem i_absI {i : Int} (q : Q (.int (if i < 0 then -i else i)) H) : rAbsI [.int i] H Q := ⟨i, rfl, q⟩
theorem i_intI {i : Int} (q : Q (.int i) H) : rIntC [.int i] H Q := .inl ⟨i, rfl, q⟩
theorem i_intB {b : Bool} (q : Q (.int (if b then 1 else 0)) H) : rIntC [.bl b] H Q := .inr ⟨b, rfl, q⟩
theorem i_min2 {i j : Int} (q : Q (.int (if j < i then j else i)) H) : rMin2 [.int i, .int j] H Q := ⟨i, j, rfl, q⟩
theorem i_max2 {i j : Int} (q : Q (.int (if j > i then j else i)) H) : rMax2 [.int i, .int j] H Q := ⟨i, j, rfl, q⟩
theorem i_listL {p : Addr} {xs : List V} (h : SqL K H p xs) (q : ∀ l, H l = none → Q (.ref l) (upd H l (.lst xs))) : rListC K [.ref p] H Q := ⟨p, xs, rfl, .inl h, q⟩
theorem i_listT {p : Addr} {xs : List V} (h : SqT K H p xs) (q : ∀ l, H l = none → Q (.ref l) (upd H l (.lst xs))) : rListC K [.ref p] H Q := ⟨p, xs, rfl, .inr h, q⟩
theorem i_tupL {p : Addr} {xs : List V} (h : SqL K H p xs) (q : ∀ l, H l = none → Q (.ref l) (upd H l (.tup xs))) : rTupC K [.ref p] H Q := ⟨p, xs, rfl, .inl ⟨h, q⟩⟩
theorem i_tupT {p : Addr} {xs : List V} (h : SqT K H p xs) (q : Q (.ref p) H) : rTupC K [.ref p] H Q := ⟨p, xs, rfl, .inr ⟨h, q⟩⟩
theorem i_app {l : Addr} {xs : List V} {y : V} (h : H l = some (.lst xs)) (hz : xs.length < sizeLine) (q : Q .non (upd H l (.lst (xs ++ [y])))) : rAppend (.ref l) [y] H Q := ⟨l, xs, y, rfl, rfl, h, hz, q⟩
theorem i_popL {l : Addr} {xs : List V} {y : V} (h : H l = some (.lst xs)) (hy : xs[xs.length - 1]? = some y) (q : Q y (upd H l (.lst xs.dropLast))) : rPop (.ref l) [] H Q := ⟨l, xs, y, rfl, rfl, h, hy, q⟩
theorem i_tyL {l : Addr} {xs : List V} {R : Prop} (h : SqL K H l xs) (q : R) : tyV K "list" (.ref l) H ∧ R := ⟨.inl ⟨rfl, _, h⟩, q⟩
theorem i_all {a : Addr} {bs : List Bool} (h : SqL K H a (bs.map V.bl)) (q : Q (.bl (bs.all id)) H) : rAll K [.ref a] H Q := ⟨a, bs, rfl, h, q⟩
theorem i_any {a : Addr} {bs : List Bool} (h : SqL K H a (bs.map V.bl)) (q : Q (.bl (bs.any id)) H) : rAny K [.ref a] H Q := ⟨a, bs, rfl, h, q⟩
theorem i_ite2 {c : Bool} {A B : Prop} (h1 : c = true → A) (h2 : c = false → B) : if c = true then A else B := by
  cases c with
  | true => exact h1 rfl
  | false => exact iteF (h2 rfl)
theorem i_iteT {c : Bool} {A B : Prop} (hc : c = true) (h : A) : if c = true then A else B := by subst hc; exact h
theorem i_iteF {c : Bool} {A B : Prop} (hc : c = false) (h : B) : if c = true then A else B := by subst hc; exact iteF h
/-! ### what stands -/
/-- all that H knows stands but what lies in fp -/
def Stays (fp : List Addr) (H H' : Hp) : Prop := ∀ b o, H b = some o → b ∉ fp → H' b = some o
theorem Stays.refl {fp : List Addr} (H : Hp) : Stays fp H H := fun _ _ h _ => h
theorem Stays.trans {fp : List Addr} {H H1 H2 : Hp} (a : Stays fp H H1) (b : Stays fp H1 H2) : Stays fp H H2 := fun c o h n => b c o (a c o h n) n
theorem Stays.wide {fp gp : List Addr} {H H' : Hp} (a : Stays fp H H') (h : ∀ b, b ∈ fp → b ∈ gp) : Stays gp H H' := fun c o e n => a c o e fun m => n (h c m)
theorem Stays.same {fp : List Addr} {H H' : Hp} (a : Same H H') : Stays fp H H' := fun c o e _ => a c o e
theorem Stays.get {fp : List Addr} {H H' : Hp} (a : Stays fp H H') {b : Addr} {o : HO} (h : H b = some o) (n : b ∉ fp) : H' b = some o := a b o h n
theorem Stays.put {fp : List Addr} {H H' : Hp} (a : Stays fp H H') {p : Addr} {o : HO} (h : p ∈ fp) : Stays fp H (L2.upd H' p o) := fun b u e n => by
  have hb : b ≠ p := fun z => n (z ▸ h)
  rw [upd_ne hb]
  exact a b u e n
theorem Stays.new {fp : List Addr} {H H' : Hp} (a : Stays fp H H') {p : Addr} {o : HO} (h : H p = none) : Stays fp H (upd H' p o) := fun b u e n => by
  rw [upd_ne (ne_of_none e h)]
  exact a b u e n
theorem same_new {H H' : Hp} (a : Same H H') {p : Addr} {o : HO} (h : H p = none) : Same H (upd H' p o) := fun b u e => by
  rw [upd_ne (ne_of_none e h)]
  exact a b u e
theorem Stays.free {fp : List Addr} {H H' : Hp} (a : Stays fp H H') {p : Addr} (hf : p ∉ fp) (h : H' p = none) : H p = none := by
  cases e : H p with
  | none => rfl
  | some o => rw [a p o e hf] at h; cases h
theorem same_free {H H' : Hp} (a : Same H H') {p : Addr} (h : H' p = none) : H p = none := by
  cases e : H p with
  | none => rfl
  | some o => rw [a p o e] at h; cases h
theorem same_nx {H H' : Hp} (a : Same H H') {p : Addr} {o : HO} (h : H' p = none) : Same H (upd H' p o) := same_new a (same_free a h)
theorem ne_fresh {H : Hp} {a b : Addr} {o : HO} (h' : H b = none) (h : H a = some o) : a ≠ b := ne_of_none h h'
theorem upd_at {H : Hp} {a b : Addr} {o u : HO} (n : b ≠ a) (h : H b = some u) : upd H a o b = some u := by rw [upd_ne n]; exact h
theorem upd_no {H : Hp} {a b : Addr} {o : HO} (n : b ≠ a) (h : H b = none) : upd H a o b = none := by rw [upd_ne n]; exact h
theorem Same.get {H H' : Hp} (a : Same H H') {b : Addr} {o : HO} (h : H b = some o) : H' b = some o := a b o h
theorem sqL {K : PySem.W.Frag} {H : Hp} {a : Addr} {xs : List V} (h : H a = some (.lst xs)) : SqL K H a xs := SqL.of h
theorem sqT {K : PySem.W.Frag} {H : Hp} {a : Addr} {xs : List V} (h : H a = some (.tup xs)) : SqT K H a xs := SqT.of h
end Rb
/-! Rb: data that stands in the heap (Dp), what keeps it, isinstance, in, ==. -/
namespace Rb
open PySem PySem.Spec PyProof.Rows L2
variable {K : PySem.W.Frag} {σ : L2.St} {H H' : Hp} {Q : VK}
/-! ### tuples stay -/
def isTupO : HO → Bool
  | .tup _ => true
  | .frz _ (.tup _) => true
  | _ => false
/-- every tuple stands -/
def Keep (H H' : Hp) : Prop := ∀ a u, H a = some u → isTupO u = true → H' a = some u
theorem Keep.refl (H : Hp) : Keep H H := fun _ _ h _ => h
theorem Keep.trans {H H1 H2 : Hp} (a : Keep H H1) (b : Keep H1 H2) : Keep H H2 := fun c u h t => b c u (a c u h t) t
theorem Keep.same (s : Same H H') : Keep H H' := fun a u h _ => s a u h
theorem Keep.stays {fp : List Addr} (s : Stays fp H H') (n : ∀ a ∈ fp, ∀ u, H a = some u → isTupO u = false) : Keep H H' := fun a u h t => s a u h fun m => by
  rw [n a m u h] at t
  cases t
theorem Keep.upd (k : Keep H H') {p : Addr} {o : HO} (n : ∀ u, H p = some u → isTupO u = false) : Keep H (L2.upd H' p o) := fun a u h t => by
  have hb : a ≠ p := fun z => by
    subst z
    rw [n u h] at t
    cases t
  rw [upd_ne hb]
  exact k a u h t
theorem Keep.new (k : Keep H H') {p : Addr} {o : HO} (h : H p = none) : Keep H (L2.upd H' p o) := k.upd fun u e => by rw [h] at e; cases e
theorem Keep.rd (k : Keep H H') {a : Addr} {xs : List V} (h : Rd H a (.tup xs)) : Rd H' a (.tup xs) := by
  rcases h with h | ⟨o, h⟩
  · exact .inl (k a _ h rfl)
  · exact .inr ⟨o, k a _ h rfl⟩
theorem Keep.sq (k : Keep H H') {a : Addr} {xs : List V} (h : SqT K H a xs) : SqT K H' a xs := by
  rcases h with h | h
  · exact .inl (k.rd h)
  · exact .inr h
mutual
/-- no list and no dict within -/
def tupOnly : PyData → Bool
  | .none | .bool _ | .int _ | .str _ => true
  | .tuple xs => tupAll xs
  | .list _ | .dict _ => false
def tupAll : List PyData → Bool
  | [] => true
  | x :: xs => tupOnly x && tupAll xs
end
mutual
theorem Dp.keep (k : Keep H H') : ∀ (d : PyData) (v : V), Dp K H v d → tupOnly d = true → Dp K H' v d
  | .none, _, h, _ => by cases h; exact .non
  | .bool b, _, h, _ => by cases h; exact .bl b
  | .int i, _, h, _ => by cases h; exact .int i
  | .str x, _, h, _ => by cases h; exact .str x
  | .list ds, _, _, t => by cases t
  | .dict _, _, _, t => by cases t
  | .tuple ds, _, h, t => by
    cases h with
    | tup hs ha => exact .tup (k.sq hs) (DpAll.keep k ds _ ha t)
theorem DpAll.keep (k : Keep H H') : ∀ (ds : List PyData) (vs : List V), DpAll K H vs ds → tupAll ds = true → DpAll K H' vs ds
  | [], _, h, _ => by cases h; exact .nil
  | d :: ds, _, h, t => by
    have t' : (tupOnly d && tupAll ds) = true := t
    rw [Bool.and_eq_true] at t'
    cases h with
    | cons h1 h2 => exact .cons (Dp.keep k d _ h1 t'.1) (DpAll.keep k ds _ h2 t'.2)
end
theorem sqL_same {H H' : Hp} (s : Same H H') {a : Addr} {xs : List V} (h : SqL K H a xs) : SqL K H' a xs := s.seq h
mutual
/-- where all stands -/
theorem Dp.same (s : Same H H') : ∀ (d : PyData) (v : V), Dp K H v d → Dp K H' v d
  | .none, _, h => by cases h; exact .non
  | .bool b, _, h => by cases h; exact .bl b
  | .int i, _, h => by cases h; exact .int i
  | .str x, _, h => by cases h; exact .str x
  | .list ds, _, h => by
    cases h with
    | lst hs ha => exact .lst (s.seq hs) (DpAll.same s ds _ ha)
  | .dict _, _, h => by cases h
  | .tuple ds, _, h => by
    cases h with
    | tup hs ha => exact .tup ((Keep.same s).sq hs) (DpAll.same s ds _ ha)
theorem DpAll.same (s : Same H H') : ∀ (ds : List PyData) (vs : List V), DpAll K H vs ds → DpAll K H' vs ds
  | [], _, h => by cases h; exact .nil
  | d :: ds, _, h => by
    cases h with
    | cons h1 h2 => exact .cons (Dp.same s d _ h1) (DpAll.same s ds _ h2)
end
theorem DpAll.length : ∀ {vs : List V} {ds : List PyData}, DpAll K H vs ds → vs.length = ds.length
  | _, _, .nil => rfl
  | _, _, .cons _ t => congrArg Nat.succ (DpAll.length t)
theorem DpAll.get : ∀ {vs : List V} {ds : List PyData} {i : Nat} {v : V}, DpAll K H vs ds → vs[i]? = some v → ∃ d, ds[i]? = some d ∧ Dp K H v d
  | _, _, _, _, .nil, e => by simp at e
  | _, _, 0, _, .cons h _, e => by simp at e; subst e; exact ⟨_, rfl, h⟩
  | _, _, i + 1, v, .cons _ t, e => by
    obtain ⟨d, h1, h2⟩ := DpAll.get (i := i) (v := v) t (by simpa using e)
    exact ⟨d, by simpa using h1, h2⟩
theorem DpAll.getD : ∀ {vs : List V} {ds : List PyData} {i : Nat} {d : PyData}, DpAll K H vs ds → ds[i]? = some d → ∃ v, vs[i]? = some v ∧ Dp K H v d
  | _, _, _, _, .nil, e => by simp at e
  | _, _, 0, _, .cons h _, e => by simp at e; subst e; exact ⟨_, rfl, h⟩
  | _, _, i + 1, d, .cons _ t, e => by
    obtain ⟨v, h1, h2⟩ := DpAll.getD (i := i) (d := d) t (by simpa using e)
    exact ⟨v, by simpa using h1, h2⟩
theorem DpAll.app : ∀ {vs ws : List V} {ds es : List PyData}, DpAll K H vs ds → DpAll K H ws es → DpAll K H (vs ++ ws) (ds ++ es)
  | _, _, _, _, .nil, h => h
  | _, _, _, _, .cons a t, h => .cons a (DpAll.app t h)
theorem DpAll.set : ∀ {vs : List V} {ds : List PyData} (i : Nat) {v : V} {d : PyData}, DpAll K H vs ds → Dp K H v d → DpAll K H (vs.set i v) (ds.set i d)
  | _, _, _, _, _, .nil, _ => .nil
  | _, _, 0, _, _, .cons _ t, h => .cons h t
  | _, _, i + 1, _, _, .cons a t, h => .cons a (DpAll.set i t h)
theorem DpAll.take : ∀ {vs : List V} {ds : List PyData} (n : Nat), DpAll K H vs ds → DpAll K H (vs.take n) (ds.take n)
  | _, _, 0, _ => .nil
  | _, _, _ + 1, .nil => .nil
  | _, _, n + 1, .cons a t => .cons a (DpAll.take n t)
theorem DpAll.drop : ∀ {vs : List V} {ds : List PyData} (n : Nat), DpAll K H vs ds → DpAll K H (vs.drop n) (ds.drop n)
  | _, _, 0, r => r
  | _, _, _ + 1, .nil => .nil
  | _, _, n + 1, .cons _ t => DpAll.drop n t
theorem DpAll.rep {v : V} {d : PyData} (h : Dp K H v d) : ∀ n : Nat, DpAll K H (List.replicate n v) (List.replicate n d)
  | 0 => .nil
  | n + 1 => .cons h (DpAll.rep h n)
theorem DpAll.ints : ∀ ns : List Int, DpAll K H (ns.map V.int) (ns.map PyData.int)
  | [] => .nil
  | n :: ns => .cons (.int n) (DpAll.ints ns)
/-- a tuple's data -/
theorem Dp.tupOf {v : V} {ds : List PyData} (h : Dp K H v (.tuple ds)) : ∃ a xs, v = .ref a ∧ SqT K H a xs ∧ DpAll K H xs ds := by
  cases h with
  | tup hs ha => exact ⟨_, _, rfl, hs, ha⟩
theorem Dp.intOf {v : V} {i : Int} (h : Dp K H v (.int i)) : v = .int i := by cases h; rfl
theorem Dp.strOf {v : V} {x : Str} (h : Dp K H v (.str x)) : v = .str x := by cases h; rfl
theorem Dp.nonOf {v : V} (h : Dp K H v .none) : v = .non := by cases h; rfl
theorem Dp.blOf {v : V} {b : Bool} (h : Dp K H v (.bool b)) : v = .bl b := by cases h; rfl
/-! ### isinstance -/
def tyN : PyData → String
  | .none => "NoneType" | .bool _ => "bool" | .int _ => "int" | .str _ => "str" | .list _ => "list" | .tuple _ => "tuple" | .dict _ => "dict"
theorem Dp.ty {v : V} {d : PyData} (h : Dp K H v d) : TyX K H v (.type (tyN d)) := by
  cases h with
  | non => exact .base .non
  | bl b => exact .base (.bl b)
  | int i => exact .base (.int i)
  | str x => exact .base (.str x)
  | lst hs _ =>
    rcases hs with (h | ⟨o, h⟩) | ⟨o, its, n, hk, hc, _⟩
    · exact .base (.lst h)
    · exact .base (.frz h)
    · exact .kList hk hc
  | tup hs _ =>
    rcases hs with (h | ⟨o, h⟩) | ⟨o, its, n, hk, hc, _⟩
    · exact .base (.tup h)
    · exact .fTuple h
    · exact .kTuple hk hc
def instB (d : PyData) (n : String) : Bool := match d, n with
  | .bool _, "int" => true
  | .bool _, "bool" => true
  | .int _, "int" => true
  | .str _, "str" => true
  | .list _, "list" => true
  | .tuple _, "tuple" => true
  | _, _ => false
theorem i_isi {v : V} {d : PyData} {n : String} (h : Dp K H v d) (e : PySem.W.kitOne K (.type (tyN d)) (.type n) = some (instB d n)) (q : Q (.bl (instB d n)) H) : rIsi K [v, .ty n] H Q :=
  ⟨v, .ty n, _, _, _, rfl, .ty n, Dp.ty h, e, q⟩
theorem kit_int (d : PyData) : PySem.W.kitOne K (.type (tyN d)) (.type "int") = some (instB d "int") := by
  cases d with
  | none => exact kit_ty (show kitB "NoneType" "int" = some false by decide +kernel)
  | bool _ => exact kit_ty (show kitB "bool" "int" = some true by decide +kernel)
  | int _ => exact kit_ty (show kitB "int" "int" = some true by decide +kernel)
  | str _ => exact kit_ty (show kitB "str" "int" = some false by decide +kernel)
  | list _ => exact kit_ty (show kitB "list" "int" = some false by decide +kernel)
  | tuple _ => exact kit_ty (show kitB "tuple" "int" = some false by decide +kernel)
  | dict _ => exact kit_ty (show kitB "dict" "int" = some false by decide +kernel)
theorem kit_bool (d : PyData) : PySem.W.kitOne K (.type (tyN d)) (.type "bool") = some (instB d "bool") := by
  cases d with
  | none => exact kit_ty (show kitB "NoneType" "bool" = some false by decide +kernel)
  | bool _ => exact kit_ty (show kitB "bool" "bool" = some true by decide +kernel)
  | int _ => exact kit_ty (show kitB "int" "bool" = some false by decide +kernel)
  | str _ => exact kit_ty (show kitB "str" "bool" = some false by decide +kernel)
  | list _ => exact kit_ty (show kitB "list" "bool" = some false by decide +kernel)
  | tuple _ => exact kit_ty (show kitB "tuple" "bool" = some false by decide +kernel)
  | dict _ => exact kit_ty (show kitB "dict" "bool" = some false by decide +kernel)
theorem kit_str (d : PyData) : PySem.W.kitOne K (.type (tyN d)) (.type "str") = some (instB d "str") := by
  cases d with
  | none => exact kit_ty (show kitB "NoneType" "str" = some false by decide +kernel)
  | bool _ => exact kit_ty (show kitB "bool" "str" = some false by decide +kernel)
  | int _ => exact kit_ty (show kitB "int" "str" = some false by decide +kernel)
  | str _ => exact kit_ty (show kitB "str" "str" = some true by decide +kernel)
  | list _ => exact kit_ty (show kitB "list" "str" = some false by decide +kernel)
  | tuple _ => exact kit_ty (show kitB "tuple" "str" = some false by decide +kernel)
  | dict _ => exact kit_ty (show kitB "dict" "str" = some false by decide +kernel)
theorem kit_tuple (d : PyData) : PySem.W.kitOne K (.type (tyN d)) (.type "tuple") = some (instB d "tuple") := by
  cases d with
  | none => exact kit_ty (show kitB "NoneType" "tuple" = some false by decide +kernel)
  | bool _ => exact kit_ty (show kitB "bool" "tuple" = some false by decide +kernel)
  | int _ => exact kit_ty (show kitB "int" "tuple" = some false by decide +kernel)
  | str _ => exact kit_ty (show kitB "str" "tuple" = some false by decide +kernel)
  | list _ => exact kit_ty (show kitB "list" "tuple" = some false by decide +kernel)
  | tuple _ => exact kit_ty (show kitB "tuple" "tuple" = some true by decide +kernel)
  | dict _ => exact kit_ty (show kitB "dict" "tuple" = some false by decide +kernel)
theorem kit_list (d : PyData) : PySem.W.kitOne K (.type (tyN d)) (.type "list") = some (instB d "list") := by
  cases d with
  | none => exact kit_ty (show kitB "NoneType" "list" = some false by decide +kernel)
  | bool _ => exact kit_ty (show kitB "bool" "list" = some false by decide +kernel)
  | int _ => exact kit_ty (show kitB "int" "list" = some false by decide +kernel)
  | str _ => exact kit_ty (show kitB "str" "list" = some false by decide +kernel)
  | list _ => exact kit_ty (show kitB "list" "list" = some true by decide +kernel)
  | tuple _ => exact kit_ty (show kitB "tuple" "list" = some false by decide +kernel)
  | dict _ => exact kit_ty (show kitB "dict" "list" = some false by decide +kernel)
theorem i_isiInt {v : V} {d : PyData} (h : Dp K H v d) (q : Q (.bl (instB d "int")) H) : rIsi K [v, .ty "int"] H Q := i_isi h (kit_int d) q
theorem i_isiBool {v : V} {d : PyData} (h : Dp K H v d) (q : Q (.bl (instB d "bool")) H) : rIsi K [v, .ty "bool"] H Q := i_isi h (kit_bool d) q
theorem i_isiStr {v : V} {d : PyData} (h : Dp K H v d) (q : Q (.bl (instB d "str")) H) : rIsi K [v, .ty "str"] H Q := i_isi h (kit_str d) q
theorem i_isiTup {v : V} {d : PyData} (h : Dp K H v d) (q : Q (.bl (instB d "tuple")) H) : rIsi K [v, .ty "tuple"] H Q := i_isi h (kit_tuple d) q
theorem i_isiList {v : V} {d : PyData} (h : Dp K H v d) (q : Q (.bl (instB d "list")) H) : rIsi K [v, .ty "list"] H Q := i_isi h (kit_list d) q
/-! ### shapes -/
theorem shaped_int (i : Int) : SeqAt.shaped (.int i) = true := rfl
theorem shaped_none : SeqAt.shaped .none = true := rfl
theorem shaped_bool (b : Bool) : SeqAt.shaped (.bool b) = true := rfl
/-! ### slices of tuples -/
theorem cut_take (xs : List V) (n : Nat) (h : n ≤ xs.length) : cutV xs none (some (n : Int)) = xs.take n := by
  unfold cutV
  rw [HT.sIx_none, HT.sIx_nat, List.drop_zero, Nat.sub_zero, Nat.min_eq_left h]
theorem cut_drop (xs : List V) (n : Nat) (h : n ≤ xs.length) : cutV xs (some (n : Int)) none = xs.drop n := by
  unfold cutV
  rw [HT.sIx_none, HT.sIx_nat, Nat.min_eq_left h]
  exact List.take_of_length_le (by simp)
theorem i_slTake {a : Addr} {xs : List V} {n : Nat} (hs : SqT K H a xs) (h : n ≤ xs.length) (q : ∀ (p : Addr) (H' : Hp), Same H H' → SqT K H' p (xs.take n) → Q (.ref p) H') : rSlX K (.ref a) none (some (n : Int)) H Q := by
  refine .inr ⟨a, xs, rfl, hs, fun w => ?_, fun _ p hp => ?_⟩
  · obtain ⟨_, w2⟩ := w
    rw [HT.sIx_nat, Nat.min_eq_left h] at w2
    exact q a H (Same.refl H) (by rw [w2, List.take_length]; exact hs)
  · rw [cut_take xs n h]
    exact q p _ (same_new (Same.refl H) hp) (sqT upd_same)
theorem i_slDrop {a : Addr} {xs : List V} {n : Nat} (hs : SqT K H a xs) (h : n ≤ xs.length) (q : ∀ (p : Addr) (H' : Hp), Same H H' → SqT K H' p (xs.drop n) → Q (.ref p) H') : rSlX K (.ref a) (some (n : Int)) none H Q := by
  refine .inr ⟨a, xs, rfl, hs, fun w => ?_, fun _ p hp => ?_⟩
  · obtain ⟨w1, _⟩ := w
    rw [HT.sIx_nat, Nat.min_eq_left h] at w1
    exact q a H (Same.refl H) (by rw [w1, List.drop_zero]; exact hs)
  · rw [cut_drop xs n h]
    exact q p _ (same_new (Same.refl H) hp) (sqT upd_same)
/-- t + u -/
theorem i_catT {a b : Addr} {xs ys : List V} (ha : SqT K H a xs) (hb : SqT K H b ys) (hl : xs.length + ys.length ≤ sizeLine) (q : ∀ (p : Addr) (H' : Hp), Same H H' → SqT K H' p (xs ++ ys) → Q (.ref p) H') : rAddA K (.ref a) (.ref b) H Q := by
  refine i_addT ha hb hl (fun e => ?_) (fun _ e => ?_) fun _ _ p hp => ?_
  · subst e
    exact q b H (Same.refl H) hb
  · subst e
    exact q a H (Same.refl H) (by rw [List.append_nil]; exact ha)
  · exact q p _ (same_new (Same.refl H) hp) (sqT upd_same)
/-! ### shapes, step by step -/
def Sh (n : Nat) (d : PyData) : Prop := d.canLay0 = true ∧ d.depth ≤ n
theorem Sh.shaped {n : Nat} {d : PyData} (h : Sh n d) (hn : n ≤ 64) : SeqAt.shaped d = true := by
  unfold SeqAt.shaped
  rw [h.1, decide_eq_true (Nat.le_trans h.2 hn)]
  rfl
theorem Sh.refl {n : Nat} {d : PyData} (h : Sh n d) : PyData.eqv d d = true := SeqAt.eqv_refl d h.1
theorem Sh.int {n : Nat} (i : Int) : Sh (n + 1) (.int i) := ⟨by simp [PyData.canLay0], by simp [PyData.depth]⟩
theorem Sh.none {n : Nat} : Sh (n + 1) .none := ⟨by simp [PyData.canLay0], by simp [PyData.depth]⟩
theorem Sh.bool {n : Nat} (b : Bool) : Sh (n + 1) (.bool b) := ⟨by simp [PyData.canLay0], by simp [PyData.depth]⟩
theorem Sh.str {n : Nat} (x : Str) (h : (PyData.str x).canLay0 = true) : Sh (n + 1) (.str x) := ⟨h, by simp [PyData.depth]⟩
theorem Sh.all {n : Nat} : ∀ ds : List PyData, (∀ d ∈ ds, Sh n d) → PyData.canLayAll0 ds = true ∧ PyData.depthAll ds ≤ n
  | [], _ => ⟨by simp [PyData.canLayAll0], by simp [PyData.depthAll]⟩
  | d :: ds, h => by
    have h1 := h d (by simp)
    have h2 := Sh.all ds fun e m => h e (by simp [m])
    refine ⟨by simp [PyData.canLayAll0, h1.1, h2.1], ?_⟩
    have a := h1.2
    have b := h2.2
    simp only [PyData.depthAll]
    omega
theorem Sh.tup {n : Nat} {ds : List PyData} (h : ∀ d ∈ ds, Sh n d) : Sh (n + 1) (.tuple ds) := by
  have a := Sh.all ds h
  refine ⟨by simp [PyData.canLay0, a.1], ?_⟩
  have b := a.2
  simp only [PyData.depth]
  omega
theorem Sh.lst {n : Nat} {ds : List PyData} (h : ∀ d ∈ ds, Sh n d) : Sh (n + 1) (.list ds) := by
  have a := Sh.all ds h
  refine ⟨by simp [PyData.canLay0, a.1], ?_⟩
  have b := a.2
  simp only [PyData.depth]
  omega
theorem Sh.mono {m n : Nat} {d : PyData} (h : Sh m d) (k : m ≤ n) : Sh n d := ⟨h.1, Nat.le_trans h.2 k⟩
theorem Sh.tup1 {n : Nat} {a : PyData} (ha : Sh n a) : Sh (n + 1) (.tuple [a]) := Sh.tup (by simp [ha])
theorem Sh.tup2 {n : Nat} {a b : PyData} (ha : Sh n a) (hb : Sh n b) : Sh (n + 1) (.tuple [a, b]) := Sh.tup (by simp [ha, hb])
theorem Sh.tup3 {n : Nat} {a b c : PyData} (ha : Sh n a) (hb : Sh n b) (hc : Sh n c) : Sh (n + 1) (.tuple [a, b, c]) := Sh.tup (by simp [ha, hb, hc])
/-! ### data of a known length -/
theorem Dp.lstOf {v : V} {ds : List PyData} (h : Dp K H v (.list ds)) : ∃ a xs, v = .ref a ∧ SqL K H a xs ∧ DpAll K H xs ds := by
  cases h with
  | lst hs ha => exact ⟨_, _, rfl, hs, ha⟩
theorem DpAll.one {xs : List V} {a : PyData} (h : DpAll K H xs [a]) : ∃ x, xs = [x] ∧ Dp K H x a := by
  obtain _ | ⟨h0, _ | _⟩ := h
  exact ⟨_, rfl, h0⟩
theorem DpAll.two {xs : List V} {a b : PyData} (h : DpAll K H xs [a, b]) : ∃ x y, xs = [x, y] ∧ Dp K H x a ∧ Dp K H y b := by
  obtain _ | ⟨h0, _ | ⟨h1, _ | _⟩⟩ := h
  exact ⟨_, _, rfl, h0, h1⟩
theorem DpAll.three {xs : List V} {a b c : PyData} (h : DpAll K H xs [a, b, c]) : ∃ x y z, xs = [x, y, z] ∧ Dp K H x a ∧ Dp K H y b ∧ Dp K H z c := by
  obtain _ | ⟨h0, _ | ⟨h1, _ | ⟨h2, _ | _⟩⟩⟩ := h
  exact ⟨_, _, _, rfl, h0, h1, h2⟩
theorem DpAll.four {xs : List V} {a b c d : PyData} (h : DpAll K H xs [a, b, c, d]) : ∃ x y z w, xs = [x, y, z, w] ∧ Dp K H x a ∧ Dp K H y b ∧ Dp K H z c ∧ Dp K H w d := by
  obtain _ | ⟨h0, _ | ⟨h1, _ | ⟨h2, _ | ⟨h3, _ | _⟩⟩⟩⟩ := h
  exact ⟨_, _, _, _, rfl, h0, h1, h2, h3⟩
theorem DpAll.five {xs : List V} {a b c d e : PyData} (h : DpAll K H xs [a, b, c, d, e]) : ∃ x y z w u, xs = [x, y, z, w, u] ∧ Dp K H x a ∧ Dp K H y b ∧ Dp K H z c ∧ Dp K H w d ∧ Dp K H u e := by
  obtain _ | ⟨h0, _ | ⟨h1, _ | ⟨h2, _ | ⟨h3, _ | ⟨h4, _ | _⟩⟩⟩⟩⟩ := h
  exact ⟨_, _, _, _, _, rfl, h0, h1, h2, h3, h4⟩
/-! ### in a row of flat values -/
theorem i_inT {a : Addr} {x : V} {xs : List V} (h : SqT K H a xs) (fx : flatV x = true) (fs : xs.all flatV = true) (q : Q (.bl (inV x xs)) H) : rInA K x (.ref a) H Q := .inl ⟨a, xs, rfl, .inr h, fx, fs, q⟩
theorem i_inL {a : Addr} {x : V} {xs : List V} (h : SqL K H a xs) (fx : flatV x = true) (fs : xs.all flatV = true) (q : Q (.bl (inV x xs)) H) : rInA K x (.ref a) H Q := .inl ⟨a, xs, rfl, .inl h, fx, fs, q⟩
theorem i_niT {a : Addr} {x : V} {xs : List V} (h : SqT K H a xs) (fx : flatV x = true) (fs : xs.all flatV = true) (q : Q (.bl (!inV x xs)) H) : rNiA K x (.ref a) H Q := .inl ⟨a, xs, rfl, .inr h, fx, fs, q⟩
theorem i_niL {a : Addr} {x : V} {xs : List V} (h : SqL K H a xs) (fx : flatV x = true) (fs : xs.all flatV = true) (q : Q (.bl (!inV x xs)) H) : rNiA K x (.ref a) H Q := .inl ⟨a, xs, rfl, .inl h, fx, fs, q⟩
/-! ### whole numbers within bounds -/
def isI : PyData → Bool
  | .int _ => true
  | _ => false
theorem isI_of {d : PyData} (h : isI d = true) : ∃ i, d = .int i := by cases d <;> first | exact ⟨_, rfl⟩ | cases h
theorem isI_inst {d : PyData} (h : instB d "int" = true) (k : (!instB d "bool") = true) : ∃ i, d = .int i := by
  cases d with
  | int i => exact ⟨i, rfl⟩
  | bool b => cases k
  | none => cases h
  | str x => cases h
  | list ds => cases h
  | tuple ds => cases h
  | dict ds => cases h
theorem inst_isI (d : PyData) : (if instB d "int" = true then !instB d "bool" else false) = isI d := by cases d <;> rfl
def within (d : PyData) (lo hi : Int) : Bool := match d with
  | .int i => decide (lo ≤ i) && decide (i ≤ hi)
  | _ => false
theorem within_of {d : PyData} {lo hi : Int} (h : within d lo hi = true) : ∃ i, d = .int i ∧ lo ≤ i ∧ i ≤ hi := by
  cases d with
  | int i =>
    have h' : (decide (lo ≤ i) && decide (i ≤ hi)) = true := h
    rw [Bool.and_eq_true] at h'
    exact ⟨i, rfl, of_decide_eq_true h'.1, of_decide_eq_true h'.2⟩
  | _ => cases h
theorem within_no {d : PyData} {lo hi : Int} (h : isI d = false) : within d lo hi = false := by cases d <;> first | rfl | cases h
def cnt (d : PyData) : Bool := match d with
  | .int i => decide (0 ≤ i)
  | _ => false
theorem cnt_of {d : PyData} (h : cnt d = true) : ∃ i, d = .int i ∧ 0 ≤ i := by
  cases d with
  | int i => exact ⟨i, rfl, of_decide_eq_true h⟩
  | _ => cases h
theorem tup_of {d : PyData} (h : instB d "tuple" = true) : ∃ ds, d = .tuple ds := by cases d <;> first | exact ⟨_, rfl⟩ | cases h
theorem str_of {d : PyData} (h : instB d "str" = true) : ∃ x, d = .str x := by cases d <;> first | exact ⟨_, rfl⟩ | cases h
def shAll (ds : List PyData) : Prop := ∀ d ∈ ds, SeqAt.shaped d = true
/-! ### t[:-1]; a place of a list or a tuple -/
theorem cut_init (xs : List V) (h : 1 ≤ xs.length) : cutV xs none (some (-1)) = xs.take (xs.length - 1) := by
  have e : HT.sIx xs.length xs.length (some (-1)) = xs.length - 1 := by
    show (if (-1 : Int) < 0 then ((-1 : Int) + (xs.length : Int)).toNat else min (-1 : Int).toNat xs.length) = _
    rw [if_pos (by decide)]
    omega
  unfold cutV
  rw [HT.sIx_none, e, List.drop_zero, Nat.sub_zero]
theorem i_slInit {a : Addr} {xs : List V} (hs : SqT K H a xs) (h : 1 ≤ xs.length) (q : ∀ (p : Addr) (H' : Hp), Same H H' → SqT K H' p (xs.take (xs.length - 1)) → Q (.ref p) H') : rSlX K (.ref a) none (some (-1)) H Q := by
  have e : HT.sIx xs.length xs.length (some (-1)) = xs.length - 1 := by
    show (if (-1 : Int) < 0 then ((-1 : Int) + (xs.length : Int)).toNat else min (-1 : Int).toNat xs.length) = _
    rw [if_pos (by decide)]
    omega
  refine .inr ⟨a, xs, rfl, hs, fun w => ?_, fun _ p hp => ?_⟩
  · obtain ⟨_, w2⟩ := w
    rw [e] at w2
    omega
  · rw [cut_init xs h]
    exact q p _ (same_new (Same.refl H) hp) (sqT upd_same)
theorem i_ixS {p : Addr} {xs : List V} {i : Int} {v : V} (h : SqL K H p xs ∨ SqT K H p xs) (h0 : 0 ≤ i) (ha : xs[i.toNat]? = some v) (q : Q v H) : rIx K (.ref p) (.int i) H Q := h.elim (fun h => i_ixLn h h0 ha q) fun h => i_ixTn h h0 ha q
theorem sqS_same {H H' : Hp} (s : Same H H') {p : Addr} {xs : List V} (h : SqL K H p xs ∨ SqT K H p xs) : SqL K H' p xs ∨ SqT K H' p xs := h.imp (sqL_same s) (Keep.same s).sq
theorem i_neR {x y : V} {d : PyData} {n : Nat} (hd : Dp K H x d) (he : Dp K H y d) (sd : Sh n d) (hn : n ≤ 64) (q : Q (.bl false) H) : rNeD K x y H Q := i_neD hd he (sd.shaped hn) (sd.shaped hn) (by rw [sd.refl]; exact q)
theorem i_eqR {x y : V} {d : PyData} {n : Nat} (hd : Dp K H x d) (he : Dp K H y d) (sd : Sh n d) (hn : n ≤ 64) (q : Q (.bl true) H) : rEqD K x y H Q := i_eqD hd he (sd.shaped hn) (sd.shaped hn) (by rw [sd.refl]; exact q)
theorem Sh.of {d : PyData} (h : SeqAt.shaped d = true) : Sh 64 d := by
  unfold SeqAt.shaped at h
  rw [Bool.and_eq_true] at h
  exact ⟨h.1, of_decide_eq_true h.2⟩
end Rb
/-! Rb: loops and comprehensions by an invariant of the turn. -/
namespace Rb
open PySem PySem.Spec PyProof.Rows L2
variable {K : PySem.W.Frag} {σ : L2.St} {H : Hp} {D : Ends} {Q : VK} {E : XK}
theorem i_for {wi : TI} {g : TG} {tb : TS} (h : wi σ H fun J H1 => ∃ W : Nat → Nat → L2.St → Hp → Prop, (∃ m, W 0 m σ H1) ∧ ∀ (i m : Nat) (σ : L2.St) (H : Hp), W i m σ H → J.stop i H ∧ D.nx σ H ∨ J.go i H ∧ ∃ N : L2.St → Hp → Prop, (∀ σ' H', N σ' H' → ∃ m', m' < m ∧ W (i + 1) m' σ' H') ∧
    ∀ x H', J.yld i H x H' → g x σ H' fun σ2 H2 => tb { nx := N, rt := D.rt, bk := D.nx, ct := N } σ2 H2) : tFor wi g tb D σ H := h
theorem i_lock {t : TS} (h : tLock t D σ H) : tLock t D σ H := h
theorem i_rng1 {ta : TA} {R : It → Hp → Prop} (h : ta σ H fun vs H1 => ∃ j : Int, vs = [.int j] ∧ -(2 ^ 62) ≤ j ∧ j < 2 ^ 62 ∧ R (Itr 0 j.toNat) H1) : iRng1 ta σ H R := h
theorem i_rng1In {n : Int} {R : Int → Prop} (h1 : -(2 ^ 62) ≤ n) (h2 : n < 2 ^ 62) (q : R n) : ∃ j : Int, [V.int n] = [.int j] ∧ -(2 ^ 62) ≤ j ∧ j < 2 ^ 62 ∧ R j := ⟨n, rfl, h1, h2, q⟩
theorem i_rng2 {ta : TA} {R : It → Hp → Prop} (h : ta σ H fun vs H1 => ∃ i j : Int, vs = [.int i, .int j] ∧ (-(2 ^ 62) ≤ i ∧ i < 2 ^ 62 ∧ -(2 ^ 62) ≤ j ∧ j < 2 ^ 62) ∧ R (Itr i (j - i).toNat) H1) : iRng2 ta σ H R := h
theorem i_rng2In {i j : Int} {R : Int → Int → Prop} (h : -(2 ^ 62) ≤ i ∧ i < 2 ^ 62 ∧ -(2 ^ 62) ≤ j ∧ j < 2 ^ 62) (q : R i j) : ∃ i' j' : Int, [V.int i, V.int j] = [.int i', .int j'] ∧ (-(2 ^ 62) ≤ i' ∧ i' < 2 ^ 62 ∧ -(2 ^ 62) ≤ j' ∧ j' < 2 ^ 62) ∧ R i' j' := ⟨i, j, rfl, h, q⟩
theorem i_list {tl : TE} {R : It → Hp → Prop} (h : tl σ H fun x H1 => ∃ a, x = .ref a ∧ (∃ xs, SqL K H1 a xs) ∧ R (Itl K a) H1) : iList K tl σ H R := h
theorem i_listIn {a : Addr} {xs : List V} {R : Addr → Prop} (h : SqL K H a xs) (q : R a) : ∃ a', V.ref a = .ref a' ∧ (∃ xs, SqL K H a' xs) ∧ R a' := ⟨a, rfl, ⟨xs, h⟩, q⟩
theorem i_tupI {tl : TE} {R : It → Hp → Prop} (h : tl σ H fun x H1 => ∃ a, x = .ref a ∧ (∃ xs, SqT K H1 a xs) ∧ R (Itt K a) H1) : iTup K tl σ H R := h
theorem i_tupIn {a : Addr} {xs : List V} {R : Addr → Prop} (h : SqT K H a xs) (q : R a) : ∃ a', V.ref a = .ref a' ∧ (∃ xs, SqT K H a' xs) ∧ R a' := ⟨a, rfl, ⟨xs, h⟩, q⟩
/-! ### for -/
theorem f_rng {lo : Int} {n : Nat} {g : TG} {tb : TS} (I : Nat → L2.St → Hp → Prop) (h0 : I 0 σ H)
    (step : ∀ k σ' H', k < n → I k σ' H' → g (.int (lo + k)) σ' H' fun σ2 H2 => tb { nx := I (k + 1), rt := D.rt, bk := D.nx, ct := I (k + 1) } σ2 H2)
    (fin : ∀ σ' H', I n σ' H' → D.nx σ' H') :
    ∃ W : Nat → Nat → L2.St → Hp → Prop, (∃ m, W 0 m σ H) ∧ ∀ (i m : Nat) (σ : L2.St) (H : Hp), W i m σ H → (Itr lo n).stop i H ∧ D.nx σ H ∨ (Itr lo n).go i H ∧ ∃ N : L2.St → Hp → Prop, (∀ σ' H', N σ' H' → ∃ m', m' < m ∧ W (i + 1) m' σ' H') ∧
    ∀ x H', (Itr lo n).yld i H x H' → g x σ H' fun σ2 H2 => tb { nx := N, rt := D.rt, bk := D.nx, ct := N } σ2 H2 := by
  refine ⟨fun i m σ H => i + m = n ∧ I i σ H, ⟨n, by omega, h0⟩, fun i m σ1 H1 ⟨e, hi⟩ => ?_⟩
  by_cases c : i < n
  · refine .inr ⟨c, I (i + 1), fun σ' H' h' => ⟨m - 1, by omega, by omega, h'⟩, fun x H' y => ?_⟩
    obtain ⟨rfl, rfl⟩ := y
    exact step i σ1 H' c hi
  · refine .inl ⟨Nat.le_of_not_lt c, ?_⟩
    have : i = n := by omega
    subst this
    exact fin _ _ hi
theorem f_list {a : Addr} {g : TG} {tb : TS} (xs : List V) (I : Nat → L2.St → Hp → Prop) (hs : ∀ k σ' H', I k σ' H' → SqL K H' a xs) (h0 : I 0 σ H)
    (step : ∀ k x σ' H', xs[k]? = some x → I k σ' H' → g x σ' H' fun σ2 H2 => tb { nx := I (k + 1), rt := D.rt, bk := D.nx, ct := I (k + 1) } σ2 H2)
    (fin : ∀ σ' H', I xs.length σ' H' → D.nx σ' H') :
    ∃ W : Nat → Nat → L2.St → Hp → Prop, (∃ m, W 0 m σ H) ∧ ∀ (i m : Nat) (σ : L2.St) (H : Hp), W i m σ H → (Itl K a).stop i H ∧ D.nx σ H ∨ (Itl K a).go i H ∧ ∃ N : L2.St → Hp → Prop, (∀ σ' H', N σ' H' → ∃ m', m' < m ∧ W (i + 1) m' σ' H') ∧
    ∀ x H', (Itl K a).yld i H x H' → g x σ H' fun σ2 H2 => tb { nx := N, rt := D.rt, bk := D.nx, ct := N } σ2 H2 := by
  refine ⟨fun i m σ H => i + m = xs.length ∧ I i σ H, ⟨xs.length, by omega, h0⟩, fun i m σ1 H1 ⟨e, hi⟩ => ?_⟩
  by_cases c : i < xs.length
  · refine .inr ⟨⟨xs, xs[i], hs _ _ _ hi, List.getElem?_eq_getElem c⟩, I (i + 1), fun σ' H' h' => ⟨m - 1, by omega, by omega, h'⟩, fun x H' y => ?_⟩
    obtain ⟨rfl, y⟩ := y
    exact step i x σ1 H' (y xs (hs _ _ _ hi)) hi
  · refine .inl ⟨⟨xs, hs _ _ _ hi, Nat.le_of_not_lt c⟩, ?_⟩
    have : i = xs.length := by omega
    subst this
    exact fin _ _ hi
theorem f_tup {a : Addr} {g : TG} {tb : TS} (xs : List V) (I : Nat → L2.St → Hp → Prop) (hs : ∀ k σ' H', I k σ' H' → SqT K H' a xs) (h0 : I 0 σ H)
    (step : ∀ k x σ' H', xs[k]? = some x → I k σ' H' → g x σ' H' fun σ2 H2 => tb { nx := I (k + 1), rt := D.rt, bk := D.nx, ct := I (k + 1) } σ2 H2)
    (fin : ∀ σ' H', I xs.length σ' H' → D.nx σ' H') :
    ∃ W : Nat → Nat → L2.St → Hp → Prop, (∃ m, W 0 m σ H) ∧ ∀ (i m : Nat) (σ : L2.St) (H : Hp), W i m σ H → (Itt K a).stop i H ∧ D.nx σ H ∨ (Itt K a).go i H ∧ ∃ N : L2.St → Hp → Prop, (∀ σ' H', N σ' H' → ∃ m', m' < m ∧ W (i + 1) m' σ' H') ∧
    ∀ x H', (Itt K a).yld i H x H' → g x σ H' fun σ2 H2 => tb { nx := N, rt := D.rt, bk := D.nx, ct := N } σ2 H2 := by
  refine ⟨fun i m σ H => i + m = xs.length ∧ I i σ H, ⟨xs.length, by omega, h0⟩, fun i m σ1 H1 ⟨e, hi⟩ => ?_⟩
  by_cases c : i < xs.length
  · refine .inr ⟨⟨xs, xs[i], hs _ _ _ hi, List.getElem?_eq_getElem c⟩, I (i + 1), fun σ' H' h' => ⟨m - 1, by omega, by omega, h'⟩, fun x H' y => ?_⟩
    obtain ⟨rfl, y⟩ := y
    exact step i x σ1 H' (y xs (hs _ _ _ hi)) hi
  · refine .inl ⟨⟨xs, hs _ _ _ hi, Nat.le_of_not_lt c⟩, ?_⟩
    have : i = xs.length := by omega
    subst this
    exact fin _ _ hi
/-! ### comprehensions -/
/-- what a comprehension asks of its iterator -/
def LcOf (J : It) (g : TG) (tt : TT) (te : TE) (vs : List Nat) (σ : L2.St) (Q : VK) (H1 : Hp) : Prop := ∀ D : Addr, H1 D = none → ∃ W : Nat → Nat → Hp → Prop, (∃ m, W 0 m (upd H1 D (.lst []))) ∧ ∀ (i m : Nat) (H : Hp), W i m H → J.stop i H ∧ Q (.ref D) H ∨ J.go i H ∧ ∃ Nx : Hp → Prop,
    (∀ H', Nx H' → ∃ m', m' < m ∧ W (i + 1) m' H') ∧ ∀ x H', J.yld i H x H' → g x (wipe σ vs) H' fun σ2 H2 => wipe σ2 vs = wipe σ vs ∧ tt σ2 H2 fun b H3 => if b = true then te σ2 H3 fun y H4 => ∃ acc, H4 D = some (.lst acc) ∧ acc.length < sizeLine ∧ Nx (upd H4 D (.lst (acc ++ [y]))) else Nx H3
theorem i_lc {wi : TI} {g : TG} {tt : TT} {te : TE} {vs : List Nat} (h : wi σ H fun J H1 => LcOf J g tt te vs σ Q H1) : tLc wi g tt te vs σ H Q := h
theorem i_yes {R : Bool → Hp → Prop} (h : R true H) : tYes σ H R := h
theorem wipe_set (σ : L2.St) (v : Nat) (x : Option V) : wipe ((wipe σ [v]).set v x) [v] = wipe σ [v] := by
  show List.set (List.set (List.set σ v none) v x) v none = List.set σ v none
  rw [List.set_set, List.set_set]
/-- what a turn asks of the value it takes -/
def LcPut (D : Addr) (k : Nat) (I : Nat → List V → Hp → Prop) (y : V) (H4 : Hp) : Prop := ∃ acc, H4 D = some (.lst acc) ∧ acc.length < sizeLine ∧ ∃ acc', acc'.length = k + 1 ∧ (upd H4 D (.lst (acc ++ [y]))) D = some (.lst acc') ∧ I (k + 1) acc' (upd H4 D (.lst (acc ++ [y])))
theorem lc_put {D : Addr} {k : Nat} {I : Nat → List V → Hp → Prop} {y : V} {acc : List V} (h : H D = some (.lst acc)) (hl : acc.length = k) (hk : k < 4000) (q : I (k + 1) (acc ++ [y]) (upd H D (.lst (acc ++ [y])))) : LcPut D k I y H :=
  ⟨acc, h, by rw [sizeLine_eq]; omega, acc ++ [y], by rw [List.length_append]; simp [hl], upd_same, q⟩
/-- over numbers, all taken, one name -/
theorem lc_rng {lo : Int} {n v : Nat} {te : TE} (I : Nat → List V → Hp → Prop) (h0 : ∀ D, H D = none → I 0 [] (upd H D (.lst [])))
    (step : ∀ k D acc H', k < n → acc.length = k → H D = none → H' D = some (.lst acc) → I k acc H' → te ((wipe σ [v]).set v (some (.int (lo + k)))) H' fun y H4 => LcPut D k I y H4)
    (fin : ∀ D acc H', acc.length = n → H D = none → H' D = some (.lst acc) → I n acc H' → Q (.ref D) H') :
    LcOf (Itr lo n) (gName v) tYes te [v] σ Q H := by
  intro D hD
  refine ⟨fun i m H' => i + m = n ∧ ∃ acc, acc.length = i ∧ H' D = some (.lst acc) ∧ I i acc H', ⟨n, by omega, [], rfl, upd_same, h0 D hD⟩, fun i m H1 ⟨e, acc, hl, ha, hi⟩ => ?_⟩
  by_cases c : i < n
  · refine .inr ⟨c, fun H' => ∃ acc, acc.length = i + 1 ∧ H' D = some (.lst acc) ∧ I (i + 1) acc H', fun H' h' => ⟨m - 1, by omega, by omega, h'⟩, fun x H' y => ?_⟩
    obtain ⟨rfl, rfl⟩ := y
    exact ⟨wipe_set σ v _, step i D acc H' c hl hD ha hi⟩
  · refine .inl ⟨Nat.le_of_not_lt c, ?_⟩
    have : i = n := by omega
    subst this
    exact fin D acc _ hl hD ha hi
/-- over a list or a tuple that stands, all taken, one name -/
theorem lc_list {a : Addr} {v : Nat} {te : TE} (xs : List V) (I : Nat → List V → Hp → Prop) (hs : ∀ k D acc H', H D = none → H' D = some (.lst acc) → I k acc H' → SqL K H' a xs) (h0 : ∀ D, H D = none → I 0 [] (upd H D (.lst [])))
    (step : ∀ k x D acc H', xs[k]? = some x → acc.length = k → H D = none → H' D = some (.lst acc) → I k acc H' → te ((wipe σ [v]).set v (some x)) H' fun y H4 => LcPut D k I y H4)
    (fin : ∀ D acc H', acc.length = xs.length → H D = none → H' D = some (.lst acc) → I xs.length acc H' → Q (.ref D) H') :
    LcOf (Itl K a) (gName v) tYes te [v] σ Q H := by
  intro D hD
  refine ⟨fun i m H' => i + m = xs.length ∧ ∃ acc, acc.length = i ∧ H' D = some (.lst acc) ∧ I i acc H', ⟨xs.length, by omega, [], rfl, upd_same, h0 D hD⟩, fun i m H1 ⟨e, acc, hl, ha, hi⟩ => ?_⟩
  by_cases c : i < xs.length
  · refine .inr ⟨⟨xs, xs[i], hs _ _ _ _ hD ha hi, List.getElem?_eq_getElem c⟩, fun H' => ∃ acc, acc.length = i + 1 ∧ H' D = some (.lst acc) ∧ I (i + 1) acc H', fun H' h' => ⟨m - 1, by omega, by omega, h'⟩, fun x H' y => ?_⟩
    obtain ⟨rfl, y⟩ := y
    exact ⟨wipe_set σ v _, step i x D acc H' (y xs (hs _ _ _ _ hD ha hi)) hl hD ha hi⟩
  · refine .inl ⟨⟨xs, hs _ _ _ _ hD ha hi, Nat.le_of_not_lt c⟩, ?_⟩
    have : i = xs.length := by omega
    subst this
    exact fin D acc _ hl hD ha hi
theorem lc_tup {a : Addr} {v : Nat} {te : TE} (xs : List V) (I : Nat → List V → Hp → Prop) (hs : ∀ k D acc H', H D = none → H' D = some (.lst acc) → I k acc H' → SqT K H' a xs) (h0 : ∀ D, H D = none → I 0 [] (upd H D (.lst [])))
    (step : ∀ k x D acc H', xs[k]? = some x → acc.length = k → H D = none → H' D = some (.lst acc) → I k acc H' → te ((wipe σ [v]).set v (some x)) H' fun y H4 => LcPut D k I y H4)
    (fin : ∀ D acc H', acc.length = xs.length → H D = none → H' D = some (.lst acc) → I xs.length acc H' → Q (.ref D) H') :
    LcOf (Itt K a) (gName v) tYes te [v] σ Q H := by
  intro D hD
  refine ⟨fun i m H' => i + m = xs.length ∧ ∃ acc, acc.length = i ∧ H' D = some (.lst acc) ∧ I i acc H', ⟨xs.length, by omega, [], rfl, upd_same, h0 D hD⟩, fun i m H1 ⟨e, acc, hl, ha, hi⟩ => ?_⟩
  by_cases c : i < xs.length
  · refine .inr ⟨⟨xs, xs[i], hs _ _ _ _ hD ha hi, List.getElem?_eq_getElem c⟩, fun H' => ∃ acc, acc.length = i + 1 ∧ H' D = some (.lst acc) ∧ I (i + 1) acc H', fun H' h' => ⟨m - 1, by omega, by omega, h'⟩, fun x H' y => ?_⟩
    obtain ⟨rfl, y⟩ := y
    exact ⟨wipe_set σ v _, step i x D acc H' (y xs (hs _ _ _ _ hD ha hi)) hl hD ha hi⟩
  · refine .inl ⟨⟨xs, hs _ _ _ _ hD ha hi, Nat.le_of_not_lt c⟩, ?_⟩
    have : i = xs.length := by omega
    subst this
    exact fin D acc _ hl hD ha hi
end Rb
/-! Rb: own exceptions raised without parts, caught; a Hook that tells more. -/
namespace Rb
open PySem PySem.Spec PyProof.Rows L2
/-- what an own error's class tells, so that it may be raised -/
structure XOk (K : PySem.W.Frag) (mg : Str → Option Value) (x : Str) : Prop where
  g : mg x = some (.ref (He.ga K x))
  ex : PySem.W.excIn K (He.ga K x) He.veBase "ValueError.__new__" = true
  kp : PySem.W.keepIn K (.ref (He.ga K x)) = true
  sub : PySem.W.subIn K (.ref (He.ga K x)) (.type "BaseException") = some true
  ty : PySem.W.typeIn K (.ref (He.ga K x)) = some (.type "type")
def tRaiseE (E : XK) (C : Addr) : TS := fun _ σ H => E (.ref C) none H
section
variable {X : Cx} {x : Str} {E : XK} {p pos pos' : Pos}
theorem pmk_own0 (T : XOk X.K X.mg x) (hg : Gl X x) (hdb : (x == ("__debug__" : Str)) = false := by decide) : PMk X (.Call (.Name x p) [] [] pos) (fun _ H Q => Q (.ref (He.ga X.K x)) none H) := by
  intro pins s σ H Q I h
  refine wpAny_Call_Name_kw (ld_glob I hg T.g ?_ hdb)
  refine PySem.W.callWith_K0 I.kIn T.kp ?_
  show wpAny _ _ (call (.ref (He.ga X.K x)) []) _ _ _
  obtain ⟨bm, N, nm, qn, bs, hdct, sn, sub, ab, col, dd, k0, k1, k2, k3, k5, mN, hC, hN, hni, T'⟩ := exc_obj I.kIn T.ex
  refine wpAny_call_exc_subT PySem.F.excBase_ValueError T' hC hN hni (fun h' e hm => ?_) (by show 0 ≤ sizeLine; omega)
  exact mk_of I hm (raises_own T.sub T.ty) h (I.hok.gone hm.new)
theorem ps_raise0 (T : XOk X.K X.mg x) (hc : X.calm = true) (tk : Takes X (fun cls d _ H => E cls d H)) (hg : Gl X x) (hdb : (x == ("__debug__" : Str)) = false := by decide) :
    PS X (.Raise (some (.Call (.Name x p) [] [] pos)) none pos') (tRaiseE E (He.ga X.K x)) := ps_raise hc tk (pmk_own0 T hg hdb)
/-! ### a method whose errors are caught here -/
def tMethS (C : Addr) (m : Str) (sp : Sp) (E : L2.St → XK) (ta : TE) (t : TA) : TE := fun σ H Q => ta σ H fun x H1 => ∃ a dx fs, x = .ref a ∧ H1 a = some (.ins C dx fs) ∧ fs.lookup m = none ∧ t σ H1 fun vs H2 => sp (x :: vs) H2 Q (E σ)
section
variable {X : Cx} {CX : CXT} {k : Nat} {f C : Addr} {fd : FuncData} {ps : List Str} {sp : Sp} {E : L2.St → XK} {m : Str} {pos apos : Pos} {e o : Expr} {es : List Expr} {ta : TE} {t : TA}
theorem pe_methS {pl : Sem Bool} (he : PE X o ta) (c : Cls X.K C) (hm : Meth X.K C m f) (F : FnOk X.prog X.w X.K X.mg X.base CX k f fd ps sp) (hr : Room k X.A) (hb : Binds X.K fd ps []) (hx : ∀ σ, PassesAt CX X σ (E σ)) (ha : PA X (e :: es) t)
    (hst : starEach (e :: es) X.env = (false, eval e X.env) :: starEach es X.env := by rfl) (hpl : (backTo pos (starEach es X.env)).any (·.1) = false := by rfl)
    (ht : eval (.Call (.Attribute o m apos) (e :: es) [] pos) X.env = (do
      let ov ← eval o X.env
      standAt apos.atName
      let (f, first) ← holding [ov] (getMethod ov m pl)
      callWith pos f first (backTo pos (starEach (e :: es) X.env)) (backToKw pos (keywordEach [] X.env))) := by rfl) :
    PE X (.Call (.Attribute o m apos) (e :: es) [] pos) (tMethS C m sp E ta t) := by
  refine ⟨fun pins s σ H Q I h => ?_⟩
  refine PySem.W.methodCall_KW (pl := pl) (thn (he.run pins s σ H _ I h) fun u s1 ⟨x, H1, I1, rx, a, dx, fs, ex, ea, l, q⟩ => ?_) ht
  subst ex
  obtain rfl : u = Value.ref a := rx
  refine getmeth_ok I1 ea c hm l ?_
  refine PySem.W.callWith_K (first := [.ref a]) (h₀ := X.base) I.ok.mod.kin hm.kp (thn (ha.run pos pins s1 σ H1 _ I1 q) fun us s2 ⟨vs, H2, I2, r, q2⟩ => ⟨I2.kIn, ?_⟩) hst hpl
  exact run_fnS (us := .ref a :: us) (vs := .ref a :: vs) F hr hb (hx σ) I2 (.cons rfl r) q2
end
end
/-! ### try -/
def tTryAs (K : PySem.W.Frag) (C : Addr) (i : Nat) (tb : WX → TS) (ts : Addr → Value → Option Addr → TS) (Wout : WX) : TS := fun D σ H => tb (wAs K (.ref C) i ts Wout D) D σ H
def tKn (C : Addr) (t : TS) (cls : Value) (d : Option Addr) : TS := fun D σ H => cls = .ref C ∧ d = none ∧ t D σ H
theorem pss_kn {X : Cx} {ss : List Stmt} {C : Addr} {t : TS} {cls : Value} {d : Option Addr} (h : cls = .ref C → d = none → PSs X ss t) : PSs X ss (tKn C t cls d) := ⟨fun pins s σ H D I q => (h q.1 q.2.1).run pins s σ H D I q.2.2⟩
def tTryOnly (K : PySem.W.Frag) (C : Addr) (tb : WX → TS) (ts : Addr → Value → Option Addr → TS) (Wout : WX) : TS := fun D σ H => tb (wOnly K (.ref C) ts Wout D) D σ H
section
variable {X : Cx} {x n : Str} {C : Addr} {i : Nat} {body suite : List Stmt} {b₀ : Stmt} {np pos pos' : Pos} {tb : WX → TS} {ts : Addr → Value → Option Addr → TS} {Wout : WX}
theorem ps_tryAs (hs : X.stack = X.env :: X.outer) (hf : X.env.frame = some X.env.locals) (hN : X.N.Nodup) (hi : X.N[i]? = some n) (hln : X.env.kindOf n = some .local) (hg : Gl X x) (hd : (x == ("__debug__" : Str)) = false) (hc : X.mg x = some (.ref C)) (tk : Takes X Wout)
    (hb : ∀ (W : WX) (pn : List (Addr × Obj)) (xe : Value → Shared → Prop), Takes (X.tr pn xe) W → PassesOwn (model X.prog X.w) X.A X.env xe → PSs (X.tr pn xe) body (tb W))
    (hsu : ∀ (a : Addr) (oe : Obj) (cls : Value) (d : Option Addr) (pn : List (Addr × Obj)), Zc cls d oe → (∃ vs, oe.data = .fields vs) → PSs (X.suite a ((a, oe) :: pn)) (b₀ :: suite) (ts a cls d)) :
    PS X (.Try body [.ExceptHandler (some (.Name x np)) (some n) (b₀ :: suite) pos'] [] [] pos) (tTryAs X.K C i tb ts Wout) := ps_try_as hs hf hN hi hln ⟨hg, hd, .inl hc⟩ tk hb hsu
theorem ps_tryOnly (hs : X.stack = X.env :: X.outer) (hf : X.env.frame = some X.env.locals) (hg : Gl X x) (hd : (x == ("__debug__" : Str)) = false) (hc : X.mg x = some (.ref C)) (tk : Takes X Wout)
    (hb : ∀ (W : WX) (pn : List (Addr × Obj)) (xe : Value → Shared → Prop), Takes (X.tr pn xe) W → PassesOwn (model X.prog X.w) X.A X.env xe → PSs (X.tr pn xe) body (tb W))
    (hsu : ∀ (a : Addr) (oe : Obj) (cls : Value) (d : Option Addr) (pn : List (Addr × Obj)), Zc cls d oe → (∃ vs, oe.data = .fields vs) → PSs (X.suite a ((a, oe) :: pn)) (b₀ :: suite) (ts a cls d)) :
    PS X (.Try body [.ExceptHandler (some (.Name x np)) none (b₀ :: suite) pos'] [] [] pos) (tTryOnly X.K C tb ts Wout) := ps_try_only hs hf ⟨hg, hd, .inl hc⟩ tk hb hsu
end
theorem hu65 {k : Nat} {A : Around} (hr : Room k A) : A.units + 65 < cLine := by
  have := hr.un
  omega
/-! ### a Hook that tells more of the written part -/
def excCB (K : PySem.W.Frag) (x : Str) : Bool :=
  He.eqO (PySem.W.findIn K (.ref (He.ga K x)) "__getattribute__") (some (some (.builtin "BaseException.__getattribute__"))) && (He.eqO (PySem.W.findIn K (.ref (He.ga K x)) "__getattr__") (some none) && (decide (PySem.W.subIn K (.ref (He.ga K x)) (.type "BaseException") = some true) && (PySem.W.hasDictIn K (He.ga K x) &&
    (He.eqO (PySem.W.findIn K (.ref (He.ga K x)) "__class__") (some (some (.builtin "object.__class__"))) && (He.eqO (PySem.W.specialIn K (.builtin "object.__class__") "__get__") (some (some (.builtin "getset_descriptor.__get__"))) && (decide (PySem.W.takesIn K (.builtin "object.__class__") = some true) && decide (PySem.W.mroIn K (He.ga K x) (.type "object") = some true)))))))
theorem excCB_ok {K : PySem.W.Frag} {x : Str} (h : excCB K x = true) : ExcC K (He.ga K x) := by
  obtain ⟨h1, h⟩ := He.ba h
  obtain ⟨h2, h⟩ := He.ba h
  obtain ⟨h3, h⟩ := He.ba h
  obtain ⟨h4, h⟩ := He.ba h
  obtain ⟨h5, h⟩ := He.ba h
  obtain ⟨h6, h⟩ := He.ba h
  obtain ⟨h7, h8⟩ := He.ba h
  exact ⟨He.eqO_ok h1, He.eqO_ok h2, of_decide_eq_true h3, h4, He.eqO_ok h5, He.eqO_ok h6, of_decide_eq_true h7, of_decide_eq_true h8⟩
abbrev AlX : Type := He.AlD × Bool
def obsX (n : Nat) (fa : List He.Fa) (fn : List He.DefD) (ex : PySem.W.Frag → Bool) (g : Addr → Option Obj) : AlX := (He.obsDG n fa fn g, ex (He.frG g (He.asD g n)))
def hookX (n : Nat) (fa : List He.Fa) (fn : List He.DefD) (ex : PySem.W.Frag → Bool) : PySem.W.Hook where
  α := AlX
  obs := fun s => obsX n fa fn ex s.heap.get?
  val := fun _ => (He.valD fn, true)
  says := fun _ h => ∃ K : PySem.W.Frag, K.In h ∧ He.SaysD fa fn K ∧ ex K = true
  of := fun _ _ e => ⟨_, He.frG_in, congrArg (fun z : AlX => z.1) e, congrArg (fun z : AlX => z.2) e⟩
  keeps := fun _ _ _ ⟨K, hK, c⟩ k => ⟨K, PySem.W.Frag.In.keeps hK k, c⟩
theorem obsX_eq {n : Nat} {fa : List He.Fa} {fn : List He.DefD} {ex : PySem.W.Frag → Bool} {g : Addr → Option Obj} {s : Shared} (h : ∀ a, g a = s.heap.get? a) : obsX n fa fn ex g = (hookX n fa fn ex).obs s := by
  have e : g = s.heap.get? := funext h
  rw [e] <;> rfl
theorem xOk_of {K : PySem.W.Frag} {mg : Str → Option Value} {x : Str} (g : mg x = some (.ref (He.ga K x))) (c : (He.Fa.exc x).ok K = true) : XOk K mg x := by
  obtain ⟨h1, h2, h3, h4⟩ := He.exc_ok c
  exact ⟨g, h1, h2, h3, h4⟩
/-! ### readings, one step -/
section
variable {K : PySem.W.Frag} {σ : L2.St} {H : Hp} {D : Ends} {Q : VK} {E : XK}
theorem i_raise {C : Addr} (h : E (.ref C) none H) : tRaiseE E C D σ H := h
theorem i_callS {sp : Sp} {E' : L2.St → XK} {t : TA} (h : t σ H fun vs H1 => sp vs H1 Q (E' σ)) : tCallS sp E' t σ H Q := h
theorem i_methS {C : Addr} {m : Str} {sp : Sp} {E' : L2.St → XK} {ta : TE} {t : TA} (h : ta σ H fun x H1 => ∃ a dx fs, x = .ref a ∧ H1 a = some (.ins C dx fs) ∧ fs.lookup m = none ∧ t σ H1 fun vs H2 => sp (x :: vs) H2 Q (E' σ)) : tMethS C m sp E' ta t σ H Q := h
theorem i_tryAs {C : Addr} {i : Nat} {tb : WX → TS} {ts : Addr → Value → Option Addr → TS} {Wout : WX} (h : tb (wAs K (.ref C) i ts Wout D) D σ H) : tTryAs K C i tb ts Wout D σ H := h
theorem i_tryOnly {C : Addr} {tb : WX → TS} {ts : Addr → Value → Option Addr → TS} {Wout : WX} (h : tb (wOnly K (.ref C) ts Wout D) D σ H) : tTryOnly K C tb ts Wout D σ H := h
/-- an exception of C', which is one that the clause names -/
theorem i_wAs {C C' : Addr} {i : Nat} {ts : Addr → TS} {Wout : WX} (e : PySem.W.exmOne K (.ref C') (.ref C) = some true)
    (h : ∀ a, H a = none → ts a { nx := fun σ' H' => D.nx (σ'.set i none) H', rt := D.rt, bk := fun σ' H' => D.bk (σ'.set i none) H', ct := fun σ' H' => D.ct (σ'.set i none) H' } (σ.set i (some (.ref a))) H) :
    wAs K (.ref C) i (fun a cls d => tKn C' (ts a) cls d) Wout D (.ref C') none σ H := ⟨true, e, fun _ a ha => ⟨rfl, rfl, h a ha⟩, fun z => nomatch z⟩
theorem i_wOnly {C C' : Addr} {ts : Addr → TS} {Wout : WX} (e : PySem.W.exmOne K (.ref C') (.ref C) = some true) (h : ∀ a, H a = none → ts a D σ H) :
    wOnly K (.ref C) (fun a cls d => tKn C' (ts a) cls d) Wout D (.ref C') none σ H := ⟨true, e, fun _ a ha => ⟨rfl, rfl, h a ha⟩, fun z => nomatch z⟩
theorem i_isE {D' a : Addr} (q : Q (.bl true) H) : rIsE K D' a [.ref a, .ref D'] H Q := ⟨.ref D', .ref D', true, rfl, fun u r => r, if_pos (by simp), q⟩
end
end Rb
namespace Rb04
open PySem PySem.Spec PyProof.Rows L2 Rb
/-! rows of the walk: lk (what stands at an address), ne, sq, sz, i (one step), go (steps) -/
local macro_rules | `(tactic| walk_at "ne") => `(tactic| first | assumption | (refine Ne.symm ?_; assumption) | exact ne_fresh (by assumption) (by walk_at "lk") | exact (ne_fresh (by assumption) (by walk_at "lk")).symm | exact ne_of (by walk_at "lk") (by walk_at "lk") (by intro z; cases z))
local macro_rules | `(tactic| walk_at "lk") => `(tactic| first | assumption | exact upd_same | ((with_reducible refine upd_at ?n ?h); (case n => walk_at "ne"); (case h => walk_at "lk")) | (refine Same.get (by assumption) ?_; walk_at "lk"))
local macro_rules | `(tactic| walk_at "sq") => `(tactic| first | assumption | exact sqL (by walk_at "lk") | exact sqT (by walk_at "lk"))
local macro_rules | `(tactic| walk_at "sz") => `(tactic| (rw [sizeLine_eq]; first | exact Nat.le_of_ble_eq_true rfl | omega))
local macro_rules | `(tactic| walk_at "i1") => `(tactic| with_reducible first
  | refine i_seq ?_ | refine i_asg ?_ | refine i_gname ?_ | refine i_ret ?_ | refine i_next ?_ | refine i_drop ?_ | refine i_ifS ?_ | refine i_gsub ?_ | refine i_augS ?_ | refine i_sfld ?_ | refine i_cont ?_ | refine i_retN ?_
  | refine i_op ?_ | refine i_c ?_ | refine i_cons ?_ | refine i_nil ?_ | refine i_cb ?_ | refine i_test ?_ | refine i_tru ?_ | refine i_not ?_ | refine i_and ?_ | refine i_or ?_ | refine i_B ?_ | refine i_fld ?_ | refine i_call ?_ | refine i_meth ?_ | refine i_make ?_
  | refine i_tup ?_ | refine i_lst ?_ | refine i_un ?_ | refine i_bm ?_ | refine i_bm0 ?_ | refine i_sl ?_ | refine i_nopart ?_ | refine i_part ?_ | refine i_partIn ?_ | refine i_chain ?_ | refine i_andV ?_ | refine i_orV ?_ | refine i_notV ?_ | refine i_if ?_ | refine i_dnew ?_
  | refine i_bl ?_ | refine i_blC ?_ | refine i_truB ?_ | refine i_neg ?_ | refine i_addI ?_ | refine i_addI2 ?_ | refine i_subI ?_ | refine i_ltI ?_ | refine i_leI ?_ | refine i_gtI ?_ | refine i_geI ?_ | refine i_isN ?_ | refine i_notN ?_ | refine i_isB ?_ | refine i_notB ?_ | refine i_eqI ?_ | refine i_neI ?_ | refine i_eqB ?_ | refine i_neB ?_
  | refine i_absI ?_ | refine i_intI ?_ | refine i_intB ?_ | refine i_min2 ?_ | refine i_max2 ?_ | refine i_ipI ?_ | refine i_gnil ?_ | refine i_gcons ?_
  | refine i_for ?_ | refine i_lc ?_ | refine i_rng1 ?_ | refine i_rng2 ?_ | refine i_list ?_ | refine i_tupI ?_ | refine i_yes ?_ | refine i_dget2 ?_ | refine i_din ?_ | refine i_dput ?_)
local macro_rules | `(tactic| walk_at "i") => `(tactic| first
  | walk_at "i1"
  | ((with_reducible refine' i_var ?h ?_); (case h => exact rfl))
  | ((with_reducible refine' i_aug ?h ?_); (case h => exact rfl))
  | ((with_reducible refine' i_ixL ?h ?a ?_); (case h => walk_at "sq"); (case a => exact rfl))
  | ((with_reducible refine' i_ixT ?h ?a ?_); (case h => walk_at "sq"); (case a => exact rfl))
  | ((with_reducible refine' i_ixLn ?h ?b ?a ?_); (case h => walk_at "sq"); (case b => decide); (case a => exact rfl))
  | ((with_reducible refine' i_ixTn ?h ?b ?a ?_); (case h => walk_at "sq"); (case b => decide); (case a => exact rfl))
  | ((with_reducible refine' i_getL ?h ?a ?b ?_); (case h => walk_at "sq"); (case a => decide); (case b => exact rfl))
  | ((with_reducible refine' i_setL ?h ?a ?_); (case h => walk_at "lk"); (case a => exact rfl))
  | ((with_reducible refine' i_mulI ?h ?_); (case h => first | exact Or.inr (by decide) | exact Or.inl (by decide)))
  | ((with_reducible refine' i_divI ?h ?_); (case h => first | exact (by decide) | exact ⟨by omega, by omega⟩))
  | ((with_reducible refine' i_modI ?h ?_); (case h => first | exact (by decide) | omega))
  | ((with_reducible refine' i_powI ?h ?_); (case h => exact ⟨by decide, by decide, by decide⟩))
  | ((with_reducible refine' i_eqS ?a ?b ?_); (case a => decide +kernel); (case b => decide +kernel))
  | ((with_reducible refine' i_neS ?a ?b ?_); (case a => decide +kernel); (case b => decide +kernel))
  | ((with_reducible refine' i_lenL ?h ?_); (case h => walk_at "sq"))
  | ((with_reducible refine' i_lenT ?h ?_); (case h => walk_at "sq"))
  | ((with_reducible refine' i_listL ?h ?_); (case h => walk_at "sq"))
  | ((with_reducible refine' i_listT ?h ?_); (case h => walk_at "sq"))
  | ((with_reducible refine' i_tupL ?h ?_); (case h => walk_at "sq"))
  | ((with_reducible refine' i_tupT ?h ?_); (case h => walk_at "sq"))
  | ((with_reducible refine' i_tyL ?h ?_); (case h => walk_at "sq"))
  | ((with_reducible refine' i_truL ?h ?_); (case h => walk_at "sq"))
  | ((with_reducible refine' i_gtup ?h ?l ?_); (case h => walk_at "sq"); (case l => exact rfl))
  | ((with_reducible refine' i_rng1In ?a ?b ?_); (case a => omega); (case b => omega))
  | ((with_reducible refine' i_rng2In ?a ?_); (case a => omega))
  | ((with_reducible refine' i_listIn ?a ?_); (case a => walk_at "sq"))
  | ((with_reducible refine' i_tupIn ?a ?_); (case a => walk_at "sq"))
  | ((with_reducible refine And.intro ?h ?_); (case h => walk_at "sz"))
  | ((with_reducible refine' i_iteT ?h ?_); (case h => first | rfl | assumption))
  | ((with_reducible refine' i_iteF ?h ?_); (case h => first | rfl | assumption)))
local macro_rules | `(tactic| walk_at "go") => `(tactic| repeat walk_at "i")
local macro_rules | `(tactic| walk_at "i") => `(tactic| with_reducible first | refine i_callS ?_ | refine i_methS ?_ | refine i_tryAs ?_ | refine i_tryOnly ?_ | refine i_isE ?_)
structure Zx (K : PySem.W.Frag) : Prop where
  mm : PySem.W.exmOne K (.ref (He.ga K "NotValid")) (.ref (He.ga K "RingError")) = some true
  kinds : ∀ H, SqT K H (He.ga K "KINDS") [.str "read", .str "write"]
def phs (n : Int) : Int := 1 - n / 4 % 2
def isKd (d : PyData) : Bool := match d with
  | .str x => inV (.str x) [.str "read", .str "write"]
  | _ => false
def partsB (t k b s : PyData) : Bool := within t 0 3 && (isKd k && (within b 0 7 && cnt s))
theorem parts_cnt {t k b s : PyData} (h : partsB t k b s = true) : ∃ i j n x, t = .int i ∧ k = .str x ∧ b = .int j ∧ s = .int n ∧ 0 ≤ i ∧ i ≤ 3 ∧ isKd (.str x) = true ∧ 0 ≤ j ∧ j ≤ 7 ∧ 0 ≤ n := by
  unfold partsB at h
  rw [Bool.and_eq_true, Bool.and_eq_true, Bool.and_eq_true] at h
  obtain ⟨h1, h2, h3, h4⟩ := h
  obtain ⟨i, rfl, i1, i2⟩ := within_of h1
  obtain ⟨j, rfl, j1, j2⟩ := within_of h3
  obtain ⟨n, rfl, n1⟩ := cnt_of h4
  have : ∃ x, k = .str x := by cases k <;> first | exact ⟨_, rfl⟩ | cases h2
  obtain ⟨x, rfl⟩ := this
  exact ⟨i, j, n, x, rfl, rfl, rfl, rfl, i1, i2, h2, j1, j2, n1⟩
def q_buffer_page (K : PySem.W.Frag) (a0 : V) (H : Hp) (Q : VK) (E : XK) : Prop := ∃ n : Int, a0 = .int n ∧ Q (.int (2 + n)) H
def sp_buffer_page (K : PySem.W.Frag) : Sp := fun vs H Q E => match vs with
  | [a0] => q_buffer_page K a0 H Q E
  | _ => False
abbrev N_buffer_page : List Str := ["tag"]
def t_buffer_page (K : PySem.W.Frag) (E : XK) : TS :=
  tRet (tOp (rAddA K) (tC (.int 2)) (tVar 0))
theorem pure_buffer_page {K : PySem.W.Frag} {a0 : V} {H : Hp} {Q : VK} {E : XK} (h : q_buffer_page K a0 H Q E) : t_buffer_page K E { nx := fun _ H' => Q .non H', rt := Q } (start N_buffer_page [a0]) H := by
  obtain ⟨n, rfl, q⟩ := h
  unfold t_buffer_page
  walk_at "go"
  exact q
def q_law_tape (K : PySem.W.Frag) (a0 : V) (H : Hp) (Q : VK) (E : XK) : Prop := ∃ (l : Addr) (ns : List Int), a0 = .ref l ∧ SqL K H l (ns.map V.int) ∧ ns.length ≤ 63 ∧ ∀ (a : Addr) (ms : List Int) (H' : Hp), Same H H' → H a = none → H' a = some (.lst (ms.map V.int)) → (∀ m ∈ ms, 0 ≤ m ∧ m < 1000) → ms.length ≤ 3780 → Q (.ref a) H'
def sp_law_tape (K : PySem.W.Frag) : Sp := fun vs H Q E => match vs with
  | [a0] => q_law_tape K a0 H Q E
  | _ => False
abbrev N_law_tape : List Str := ["_law_script", "_law_tape_here", "_law_k", "_law_value", "_law_step"]
def t_law_tape (K : PySem.W.Frag) (E : XK) : TS :=
  tSeq (tAsg (tLst (tNil)) (gName 1)) (tSeq (tFor (iRng1 (tCons (tCB (rLenA K) (tCons (tVar 0) (tNil))) (tNil))) (gName 2) (tSeq (tAsg (tCB (rAbsI) (tCons (tCB (rIntC) (tCons (tOp (rIx K) (tVar 0) (tVar 2)) (tNil))) (tNil))) (gName 3)) (tIfS (tTest (tOp (rGeI) (tVar 3) (tOp (rPowI) (tC (.int 10)) (tC (.int 18))))) (tFor (iRng1 (tCons (tC (.int 60)) (tNil))) (gName 4) (tIfS (tTest (tOp (rGtI) (tVar 3) (tC (.int 0)))) (tSeq (tDrop (tBM K "list" rAppend (tVar 1) (tCons (tOp (rModI) (tVar 3) (tC (.int 1000))) (tNil)))) (tAsg (tOp (rDivI) (tVar 3) (tC (.int 1000))) (gName 3))) (tNext))) (tFor (iRng1 (tCons (tC (.int 4)) (tNil))) (gName 4) (tSeq (tAsg (tOp (rModI) (tOp (rAddA K) (tOp (rAddA K) (tOp (rMulA K) (tVar 3) (tC (.int 48271))) (tOp (rMulA K) (tC (.int 69621)) (tOp (rAddA K) (tVar 2) (tC (.int 1))))) (tOp (rMulA K) (tC (.int 7)) (tVar 4))) (tC (.int 2147483647))) (gName 3)) (tSeq (tAsg (tOp (rModI) (tOp (rMulA K) (tVar 3) (tC (.int 16807))) (tC (.int 2147483647))) (gName 3)) (tDrop (tBM K "list" rAppend (tVar 1) (tCons (tOp (rModI) (tOp (rDivI) (tVar 3) (tC (.int 1000))) (tC (.int 1000))) (tNil)))))))))) (tRet (tVar 1)))
theorem pure_law_tape {K : PySem.W.Frag} {a0 : V} {H : Hp} {Q : VK} {E : XK} (h : q_law_tape K a0 H Q E) : t_law_tape K E { nx := fun _ H' => Q .non H', rt := Q } (start N_law_tape [a0]) H := by
  obtain ⟨l, ns, rfl, hl, hn, q⟩ := h
  unfold t_law_tape
  walk_at "go"
  intro a ha
  have s0 := fun o => same_new (o := o) (Same.refl H) ha
  -- a number more
  have more : ∀ (ms : List Int) (H' : Hp) (v : Int), Same H H' → (∀ m ∈ ms, 0 ≤ m ∧ m < 1000) → 0 ≤ v → v < 1000 → Same H (upd H' a (.lst (ms.map V.int ++ [.int v]))) ∧ ∃ ms' : List Int, (ms.map V.int ++ [V.int v]) = ms'.map V.int ∧ ms'.length = ms.length + 1 ∧ ∀ m ∈ ms', 0 ≤ m ∧ m < 1000 := by
    intro ms H' v s hm h0 h1
    refine ⟨same_new s ha, ms ++ [v], by simp, by simp, fun m hm' => ?_⟩
    rcases List.mem_append.mp hm' with hm' | hm'
    · exact hm m hm'
    · have : m = v := by simpa using hm'
      subst this
      exact ⟨h0, h1⟩
  have hlk := fun o => sqL_same (s0 o) hl
  have I0 := hlk (.lst [])
  walk_at "go"
  rw [List.length_map]
  walk_at "go"
  refine f_rng (fun k σ' H' => ∃ (ms : List Int) (x2 x3 x4 : Option V), σ' = [some (.ref l), some (.ref a), x2, x3, x4] ∧ Same H H' ∧ H' a = some (.lst (ms.map V.int)) ∧ (∀ m ∈ ms, 0 ≤ m ∧ m < 1000) ∧ ms.length ≤ 60 * k) ?_ ?_ ?_
  · exact ⟨[], none, none, none, rfl, s0 _, upd_same, (by simp), by simp⟩
  · rintro k σ' H' hk ⟨ms, x2, x3, x4, rfl, s, hx, hm, hz⟩
    have hk' : k < ns.length := by simpa using hk
    have hl' := sqL_same s hl
    walk_at "go"
    refine i_ixLn (v := .int (ns[k])) hl' (by omega) (by rw [show (0 + (k : Int)).toNat = k by omega]; simp [hk']) ?_
    walk_at "go"
    have hv0 : 0 ≤ (if ns[k] < 0 then -ns[k] else ns[k]) := by split <;> omega
    revert hv0
    generalize (if ns[k] < 0 then -ns[k] else ns[k]) = v
    intro hv0
    refine i_ite2 (fun c => ?_) (fun c => ?_)
    · clear c
      walk_at "go"
      refine f_rng (fun j σ' H' => ∃ (ms : List Int) (x4 : Option V) (v : Int), σ' = [some (.ref l), some (.ref a), some (.int (0 + (k : Int))), some (.int v), x4] ∧ 0 ≤ v ∧ Same H H' ∧ H' a = some (.lst (ms.map V.int)) ∧ (∀ m ∈ ms, 0 ≤ m ∧ m < 1000) ∧ ms.length ≤ 60 * k + j) ?_ ?_ ?_
      · exact ⟨ms, x4, v, rfl, hv0, s, hx, hm, by omega⟩
      · rintro j σ' H' hj ⟨ms, x4, v, rfl, hv0, s, hx, hm, hz⟩
        have hj' : j < 60 := by simpa using hj
        walk_at "go"
        refine i_ite2 (fun c => ?_) (fun c => ?_)
        · walk_at "go"
          refine i_app hx (by rw [sizeLine_eq, List.length_map]; omega) ?_
          obtain ⟨s', ms', e, el, hm'⟩ := more ms H' (v % 1000) s hm (Int.emod_nonneg _ (by decide)) (Int.emod_lt_of_pos _ (by decide))
          walk_at "go"
          refine ⟨ms', _, v / 1000, rfl, Int.ediv_nonneg hv0 (by decide), s', by rw [upd_same, e], hm', by omega⟩
        · refine i_next ⟨ms, _, v, rfl, hv0, s, hx, hm, by omega⟩
      · rintro σ' H' ⟨ms, x4, v, rfl, hv0, s, hx, hm, hz⟩
        have hz' : ms.length ≤ 60 * k + 60 := by simpa using hz
        exact ⟨ms, _, _, _, rfl, s, hx, hm, by omega⟩
    · clear c
      walk_at "go"
      refine f_rng (fun j σ' H' => ∃ (ms : List Int) (x4 : Option V) (v : Int), σ' = [some (.ref l), some (.ref a), some (.int (0 + (k : Int))), some (.int v), x4] ∧ 0 ≤ v ∧ Same H H' ∧ H' a = some (.lst (ms.map V.int)) ∧ (∀ m ∈ ms, 0 ≤ m ∧ m < 1000) ∧ ms.length ≤ 60 * k + j) ?_ ?_ ?_
      · exact ⟨ms, x4, v, rfl, hv0, s, hx, hm, by omega⟩
      · rintro j σ' H' hj ⟨ms, x4, v, rfl, hv0, s, hx, hm, hz⟩
        have hj' : j < 4 := by simpa using hj
        walk_at "go"
        refine i_app hx (by rw [sizeLine_eq, List.length_map]; omega) ?_
        generalize hv : (v * 48271 + 69621 * (0 + (k : Int) + 1) + 7 * (0 + (j : Int))) % 2147483647 * 16807 % 2147483647 = u
        obtain ⟨s', ms', e, el, hm'⟩ := more ms H' (u / 1000 % 1000) s hm (Int.emod_nonneg _ (by decide)) (Int.emod_lt_of_pos _ (by decide))
        refine ⟨ms', _, u, rfl, by rw [← hv]; exact Int.emod_nonneg _ (by decide), s', by rw [upd_same, e], hm', by omega⟩
      · rintro σ' H' ⟨ms, x4, v, rfl, hv0, s, hx, hm, hz⟩
        have hz' : ms.length ≤ 60 * k + 4 := by simpa using hz
        exact ⟨ms, _, _, _, rfl, s, hx, hm, by omega⟩
  · rintro σ' H' ⟨ms, x2, x3, x4, rfl, s, hx, hm, hz⟩
    walk_at "go"
    have hz' : ms.length ≤ 60 * ns.length := by simpa using hz
    exact q a ms H' s ha hx hm (by omega)
def q_law_at (K : PySem.W.Frag) (a0 a1 : V) (H : Hp) (Q : VK) (E : XK) : Prop := ∃ (l : Addr) (ms : List Int) (k : Int), a0 = .ref l ∧ a1 = .int k ∧ H l = some (.lst (ms.map V.int)) ∧ (∀ m ∈ ms, 0 ≤ m ∧ m < 1000) ∧ 0 ≤ k ∧ ∀ v, 0 ≤ v → v < 1000 → Q (.int v) H
def sp_law_at (K : PySem.W.Frag) : Sp := fun vs H Q E => match vs with
  | [a0, a1] => q_law_at K a0 a1 H Q E
  | _ => False
abbrev N_law_at : List Str := ["_law_tape_here", "_law_k"]
def t_law_at (K : PySem.W.Frag) (E : XK) : TS :=
  tSeq (tIfS (tTest (tOp (rLtI) (tVar 1) (tCB (rLenA K) (tCons (tVar 0) (tNil))))) (tRet (tOp (rIx K) (tVar 0) (tVar 1))) (tNext)) (tRet (tC (.int 0)))
theorem pure_law_at {K : PySem.W.Frag} {a0 a1 : V} {H : Hp} {Q : VK} {E : XK} (h : q_law_at K a0 a1 H Q E) : t_law_at K E { nx := fun _ H' => Q .non H', rt := Q } (start N_law_at [a0, a1]) H := by
  obtain ⟨l, ms, k, rfl, rfl, hl, hm, hk, q⟩ := h
  unfold t_law_at
  walk_at "go"
  refine i_ite2 (fun c => ?_) (fun c => ?_)
  · have c := of_decide_eq_true c
    rw [List.length_map] at c
    have c' : k.toNat < ms.length := by omega
    walk_at "go"
    have := hm _ (List.getElem_mem c')
    refine i_ixLn (v := .int (ms[k.toNat])) (sqL hl) hk (by simp [c']) ?_
    exact q _ this.1 this.2
  · walk_at "go"
    exact q 0 (by decide) (by decide)
def q_slot_of (K : PySem.W.Frag) (a0 : V) (H : Hp) (Q : VK) (E : XK) : Prop := ∃ n : Int, a0 = .int n ∧ Q (.int (n % 4)) H
def sp_slot_of (K : PySem.W.Frag) : Sp := fun vs H Q E => match vs with
  | [a0] => q_slot_of K a0 H Q E
  | _ => False
abbrev N_slot_of : List Str := ["number"]
def t_slot_of (K : PySem.W.Frag) (E : XK) : TS :=
  tRet (tOp (rModI) (tVar 0) (tC (.int 4)))
theorem pure_slot_of {K : PySem.W.Frag} {a0 : V} {H : Hp} {Q : VK} {E : XK} (h : q_slot_of K a0 H Q E) : t_slot_of K E { nx := fun _ H' => Q .non H', rt := Q } (start N_slot_of [a0]) H := by
  obtain ⟨n, rfl, q⟩ := h
  unfold t_slot_of
  walk_at "go"
  exact q
def q_phase_of (K : PySem.W.Frag) (a0 : V) (H : Hp) (Q : VK) (E : XK) : Prop := ∃ n : Int, a0 = .int n ∧ Q (.int (phs n)) H
def sp_phase_of (K : PySem.W.Frag) : Sp := fun vs H Q E => match vs with
  | [a0] => q_phase_of K a0 H Q E
  | _ => False
abbrev N_phase_of : List Str := ["number"]
def t_phase_of (K : PySem.W.Frag) (E : XK) : TS :=
  tRet (tOp (rSubI) (tC (.int 1)) (tOp (rModI) (tOp (rDivI) (tVar 0) (tC (.int 4))) (tC (.int 2))))
theorem pure_phase_of {K : PySem.W.Frag} {a0 : V} {H : Hp} {Q : VK} {E : XK} (h : q_phase_of K a0 H Q E) : t_phase_of K E { nx := fun _ H' => Q .non H', rt := Q } (start N_phase_of [a0]) H := by
  obtain ⟨n, rfl, q⟩ := h
  unfold t_phase_of
  walk_at "go"
  exact q
def q_law_phase (K : PySem.W.Frag) (a0 : V) (H : Hp) (Q : VK) (E : XK) : Prop := ∃ n : Int, a0 = .int n ∧ ∀ H', Same H H' → Q (.int (phs n)) H'
def sp_law_phase (K : PySem.W.Frag) : Sp := fun vs H Q E => match vs with
  | [a0] => q_law_phase K a0 H Q E
  | _ => False
abbrev N_law_phase : List Str := ["_law_number"]
def t_law_phase (K : PySem.W.Frag) (E : XK) : TS :=
  tRet (tOp (rIx K) (tLst (tCons (tC (.int 1)) (tCons (tC (.int 0)) (tNil)))) (tOp (rModI) (tOp (rDivI) (tVar 0) (tC (.int 4))) (tC (.int 2))))
theorem pure_law_phase {K : PySem.W.Frag} {a0 : V} {H : Hp} {Q : VK} {E : XK} (h : q_law_phase K a0 H Q E) : t_law_phase K E { nx := fun _ H' => Q .non H', rt := Q } (start N_law_phase [a0]) H := by
  obtain ⟨n, rfl, q⟩ := h
  unfold t_law_phase
  walk_at "go"
  intro p hp
  walk_at "go"
  have q := q _ (same_new (o := .lst [.int 1, .int 0]) (Same.refl H) hp)
  have : n / 4 % 2 = 0 ∨ n / 4 % 2 = 1 := by omega
  rcases this with e | e
  · rw [e]
    refine i_ixLn (sqL upd_same) (by decide) rfl ?_
    have e2 : phs n = 1 := by show 1 - n / 4 % 2 = 1; omega
    rw [e2] at q
    exact q
  · rw [e]
    refine i_ixLn (sqL upd_same) (by decide) rfl ?_
    have e2 : phs n = 0 := by show 1 - n / 4 % 2 = 0; omega
    rw [e2] at q
    exact q
def q_is_within (K : PySem.W.Frag) (a0 a1 a2 : V) (H : Hp) (Q : VK) (E : XK) : Prop := ∃ (d : PyData) (lo hi : Int), a1 = .int lo ∧ a2 = .int hi ∧ Dp K H a0 d ∧ Q (.bl (within d lo hi)) H
def sp_is_within (K : PySem.W.Frag) : Sp := fun vs H Q E => match vs with
  | [a0, a1, a2] => q_is_within K a0 a1 a2 H Q E
  | _ => False
abbrev N_is_within : List Str := ["value", "low", "high"]
def t_is_within (K : PySem.W.Frag) (E : XK) : TS :=
  tRet (tAndV (tCB (rIsi K) (tCons (tVar 0) (tCons (tC (.ty "int")) (tNil)))) (tAndV (tNotV (tCB (rIsi K) (tCons (tVar 0) (tCons (tC (.ty "bool")) (tNil))))) (tChain (rLeI) (rLeI) (tVar 1) (tVar 0) (tVar 2))))
theorem pure_is_within {K : PySem.W.Frag} {a0 a1 a2 : V} {H : Hp} {Q : VK} {E : XK} (h : q_is_within K a0 a1 a2 H Q E) : t_is_within K E { nx := fun _ H' => Q .non H', rt := Q } (start N_is_within [a0, a1, a2]) H := by
  obtain ⟨d, lo, hi, rfl, rfl, hd, q⟩ := h
  unfold t_is_within
  walk_at "go"
  refine i_isiInt hd ?_
  walk_at "go"
  refine i_ite2 (fun c => ?_) (fun c => ?_)
  · walk_at "go"
    refine i_isiBool hd ?_
    walk_at "go"
    refine i_ite2 (fun c2 => ?_) (fun c2 => ?_)
    · obtain ⟨i, rfl⟩ := isI_inst c c2
      cases Dp.intOf hd
      have q : Q (.bl (decide (lo ≤ i) && decide (i ≤ hi))) H := q
      walk_at "go"
      refine i_ite2 (fun c => ?_) (fun c => ?_)
      · rw [c] at q
        walk_at "go"
        exact q
      · rw [c] at q
        exact q
    · rw [within_no (by rw [← inst_isI, c, c2]; rfl)] at q
      exact q
  · rw [within_no (by rw [← inst_isI, c]; rfl)] at q
    exact q
def q_is_count (K : PySem.W.Frag) (a0 : V) (H : Hp) (Q : VK) (E : XK) : Prop := ∃ d, Dp K H a0 d ∧ Q (.bl (cnt d)) H
def sp_is_count (K : PySem.W.Frag) : Sp := fun vs H Q E => match vs with
  | [a0] => q_is_count K a0 H Q E
  | _ => False
abbrev N_is_count : List Str := ["value"]
def t_is_count (K : PySem.W.Frag) (E : XK) : TS :=
  tRet (tAndV (tCB (rIsi K) (tCons (tVar 0) (tCons (tC (.ty "int")) (tNil)))) (tAndV (tNotV (tCB (rIsi K) (tCons (tVar 0) (tCons (tC (.ty "bool")) (tNil))))) (tOp (rGeI) (tVar 0) (tC (.int 0)))))
theorem pure_is_count {K : PySem.W.Frag} {a0 : V} {H : Hp} {Q : VK} {E : XK} (h : q_is_count K a0 H Q E) : t_is_count K E { nx := fun _ H' => Q .non H', rt := Q } (start N_is_count [a0]) H := by
  obtain ⟨d, hd, q⟩ := h
  have no : isI d = false → cnt d = false := fun h => by cases d <;> first | rfl | cases h
  unfold t_is_count
  walk_at "go"
  refine i_isiInt hd ?_
  walk_at "go"
  refine i_ite2 (fun c => ?_) (fun c => ?_)
  · walk_at "go"
    refine i_isiBool hd ?_
    walk_at "go"
    refine i_ite2 (fun c2 => ?_) (fun c2 => ?_)
    · obtain ⟨i, rfl⟩ := isI_inst c c2
      cases Dp.intOf hd
      walk_at "go"
      exact q
    · rw [no (by rw [← inst_isI, c, c2]; rfl)] at q
      exact q
  · rw [no (by rw [← inst_isI, c]; rfl)] at q
    exact q
def q_are_parts (K : PySem.W.Frag) (a0 a1 a2 a3 : V) (H : Hp) (Q : VK) (E : XK) : Prop := ∃ t k b s, Dp K H a0 t ∧ Dp K H a1 k ∧ Dp K H a2 b ∧ Dp K H a3 s ∧ Q (.bl (partsB t k b s)) H
def sp_are_parts (K : PySem.W.Frag) : Sp := fun vs H Q E => match vs with
  | [a0, a1, a2, a3] => q_are_parts K a0 a1 a2 a3 H Q E
  | _ => False
abbrev N_are_parts : List Str := ["tag", "kind", "block", "sequence"]
def t_are_parts (K : PySem.W.Frag) (E : XK) : TS :=
  tSeq (tIfS (tOr (tNot (tTru K (tCall (sp_is_within K) [] E0 (tCons (tVar 0) (tCons (tC (.int 0)) (tCons (tOp (rSubI) (tC (.int 4)) (tC (.int 1))) (tNil))))))) (tOr (tNot (tTru K (tCB (rIsi K) (tCons (tVar 1) (tCons (tC (.ty "str")) (tNil)))))) (tTest (tOp (rNiA K) (tVar 1) (tC (.ref (He.ga K "KINDS"))))))) (tRet (tC (.bl false))) (tNext)) (tRet (tAndV (tCall (sp_is_within K) [] E0 (tCons (tVar 2) (tCons (tC (.int 0)) (tCons (tC (.int 7)) (tNil))))) (tCall (sp_is_count K) [] E0 (tCons (tVar 3) (tNil)))))
theorem pure_are_parts {K : PySem.W.Frag} (Z : Zx K) {a0 a1 a2 a3 : V} {H : Hp} {Q : VK} {E : XK} (h : q_are_parts K a0 a1 a2 a3 H Q E) : t_are_parts K E { nx := fun _ H' => Q .non H', rt := Q } (start N_are_parts [a0, a1, a2, a3]) H := by
  obtain ⟨t, k, b, s, ht, hk, hb, hs, q⟩ := h
  unfold t_are_parts
  unfold partsB at q
  walk_at "go"
  refine ⟨t, 0, 3, rfl, rfl, ht, ?_⟩
  walk_at "go"
  refine i_ite2 (fun c => ?_) (fun c => ?_)
  · have c : within t 0 3 = false := by simpa using c
    rw [c] at q
    walk_at "go"
    exact q
  have c : within t 0 3 = true := by simpa using c
  rw [c, Bool.true_and] at q
  walk_at "go"
  refine i_isiStr hk ?_
  walk_at "go"
  refine i_ite2 (fun c => ?_) (fun c => ?_)
  · have c : isKd k = false := by cases k <;> first | rfl | cases c
    rw [c] at q
    walk_at "go"
    exact q
  obtain ⟨x, rfl⟩ := str_of (d := k) (by simpa using c)
  cases Dp.strOf hk
  walk_at "go"
  refine i_niT (Z.kinds H) rfl rfl ?_
  walk_at "go"
  refine i_ite2 (fun c => ?_) (fun c => ?_)
  · have c : isKd (.str x) = false := by simpa [isKd] using c
    rw [c] at q
    walk_at "go"
    exact q
  have c : isKd (.str x) = true := by simpa [isKd] using c
  rw [c, Bool.true_and] at q
  walk_at "go"
  refine ⟨b, 0, 7, rfl, rfl, hb, ?_⟩
  walk_at "go"
  refine i_ite2 (fun c => ?_) (fun c => ?_)
  · rw [c, Bool.true_and] at q
    walk_at "go"
    exact ⟨s, hs, q⟩
  · rw [c] at q
    exact q
def descD (t k b s : PyData) : PyData := match s with
  | .int n => .tuple [t, k, b, .int (phs n), s]
  | _ => .none
def q_descriptor (K : PySem.W.Frag) (a0 a1 a2 a3 : V) (H : Hp) (Q : VK) (E : XK) : Prop := ∃ t k b s, Dp K H a0 t ∧ Dp K H a1 k ∧ Dp K H a2 b ∧ Dp K H a3 s ∧ (partsB t k b s = true → ∀ v H', Same H H' → Dp K H' v (descD t k b s) → Q v H') ∧ (partsB t k b s = false → E (.ref (He.ga K "NotValid")) none H)
def sp_descriptor (K : PySem.W.Frag) : Sp := fun vs H Q E => match vs with
  | [a0, a1, a2, a3] => q_descriptor K a0 a1 a2 a3 H Q E
  | _ => False
abbrev N_descriptor : List Str := ["tag", "kind", "block", "sequence"]
def t_descriptor (K : PySem.W.Frag) (E : XK) : TS :=
  tSeq (tIfS (tNot (tTru K (tCall (sp_are_parts K) [] E0 (tCons (tVar 0) (tCons (tVar 1) (tCons (tVar 2) (tCons (tVar 3) (tNil)))))))) (tRaiseE E (He.ga K "NotValid")) (tNext)) (tRet (tTup (tCons (tVar 0) (tCons (tVar 1) (tCons (tVar 2) (tCons (tCall (sp_phase_of K) [] E0 (tCons (tVar 3) (tNil))) (tCons (tVar 3) (tNil))))))))
theorem pure_descriptor {K : PySem.W.Frag} {a0 a1 a2 a3 : V} {H : Hp} {Q : VK} {E : XK} (h : q_descriptor K a0 a1 a2 a3 H Q E) : t_descriptor K E { nx := fun _ H' => Q .non H', rt := Q } (start N_descriptor [a0, a1, a2, a3]) H := by
  obtain ⟨t, k, b, s, ht, hk, hb, hs, q1, q2⟩ := h
  unfold t_descriptor
  walk_at "go"
  refine ⟨t, k, b, s, ht, hk, hb, hs, ?_⟩
  walk_at "go"
  refine i_ite2 (fun c => ?_) (fun c => ?_)
  · exact q2 (by simpa using c)
  have c : partsB t k b s = true := by simpa using c
  have q := q1 c
  obtain ⟨i, j, n, x, rfl, rfl, rfl, rfl, _⟩ := parts_cnt c
  cases Dp.intOf hs
  walk_at "go"
  refine ⟨n, rfl, ?_⟩
  walk_at "go"
  intro p hp
  have sm := same_new (o := .tup [a0, a1, a2, .int (phs n), .int n]) (Same.refl H) hp
  exact q _ _ sm (.tup (sqT upd_same) (.cons (Dp.same sm _ _ ht) (.cons (Dp.same sm _ _ hk) (.cons (Dp.same sm _ _ hb) (.cons (.int _) (.cons (.int _) .nil))))))
def compD (t n : PyData) : PyData := match n with
  | .int m => .tuple [t, .str "done", .int (phs m)]
  | _ => .none
def q_completion (K : PySem.W.Frag) (a0 a1 : V) (H : Hp) (Q : VK) (E : XK) : Prop := ∃ t n, Dp K H a0 t ∧ Dp K H a1 n ∧ ((within t 0 3 && cnt n) = true → ∀ v H', Same H H' → Dp K H' v (compD t n) → Q v H') ∧ ((within t 0 3 && cnt n) = false → E (.ref (He.ga K "NotValid")) none H)
def sp_completion (K : PySem.W.Frag) : Sp := fun vs H Q E => match vs with
  | [a0, a1] => q_completion K a0 a1 H Q E
  | _ => False
abbrev N_completion : List Str := ["tag", "number"]
def t_completion (K : PySem.W.Frag) (E : XK) : TS :=
  tSeq (tIfS (tOr (tNot (tTru K (tCall (sp_is_within K) [] E0 (tCons (tVar 0) (tCons (tC (.int 0)) (tCons (tOp (rSubI) (tC (.int 4)) (tC (.int 1))) (tNil))))))) (tNot (tTru K (tCall (sp_is_count K) [] E0 (tCons (tVar 1) (tNil)))))) (tRaiseE E (He.ga K "NotValid")) (tNext)) (tRet (tTup (tCons (tVar 0) (tCons (tC (.str "done")) (tCons (tCall (sp_phase_of K) [] E0 (tCons (tVar 1) (tNil))) (tNil))))))
theorem pure_completion {K : PySem.W.Frag} {a0 a1 : V} {H : Hp} {Q : VK} {E : XK} (h : q_completion K a0 a1 H Q E) : t_completion K E { nx := fun _ H' => Q .non H', rt := Q } (start N_completion [a0, a1]) H := by
  obtain ⟨t, n, ht, hn, q1, q2⟩ := h
  unfold t_completion
  walk_at "go"
  refine ⟨t, 0, 3, rfl, rfl, ht, ?_⟩
  walk_at "go"
  refine i_ite2 (fun c => ?_) (fun c => ?_)
  · have c : within t 0 3 = false := by simpa using c
    exact q2 (by rw [c]; rfl)
  have c : within t 0 3 = true := by simpa using c
  rw [c, Bool.true_and] at q1 q2
  walk_at "go"
  refine ⟨n, hn, ?_⟩
  walk_at "go"
  refine i_ite2 (fun c => ?_) (fun c => ?_)
  · exact q2 (by simpa using c)
  have c : cnt n = true := by simpa using c
  have q := q1 c
  obtain ⟨m, rfl, _⟩ := cnt_of c
  cases Dp.intOf hn
  walk_at "go"
  refine ⟨m, rfl, ?_⟩
  walk_at "go"
  intro p hp
  have sm := same_new (o := .tup [a0, .str "done", .int (phs m)]) (Same.refl H) hp
  exact q _ _ sm (.tup (sqT upd_same) (.cons (Dp.same sm _ _ ht) (.cons (.str _) (.cons (.int _) .nil))))
def refD : PyData := .list [.str "refused", .bool true]
def toldD (t k b s : PyData) : PyData := if partsB t k b s = true then descD t k b s else refD
def toldC (t n : PyData) : PyData := if (within t 0 3 && cnt n) = true then compD t n else refD
def q_law_told (K : PySem.W.Frag) (a0 a1 : V) (H : Hp) (Q : VK) (E : XK) : Prop := (∃ t k b s, a0 = .str "descriptor" ∧ Dp K H a1 (.list [t, k, b, s]) ∧ ∀ v H', Same H H' → Dp K H' v (toldD t k b s) → Q v H') ∨ (∃ t n, a0 = .str "completion" ∧ Dp K H a1 (.list [t, n]) ∧ ∀ v H', Same H H' → Dp K H' v (toldC t n) → Q v H')
def sp_law_told (K : PySem.W.Frag) : Sp := fun vs H Q E => match vs with
  | [a0, a1] => q_law_told K a0 a1 H Q E
  | _ => False
abbrev N_law_told : List Str := ["_law_act", "_law_parts", "e"]
def t_law_told (K : PySem.W.Frag) (E : XK) : TS :=
  tTryAs K (He.ga K "RingError") 2 (fun W => tSeq (tIfS (tTest (tOp (rEqD K) (tVar 0) (tC (.str "descriptor")))) (tRet (tCallS (sp_descriptor K) (WE W) (tCons (tOp (rIx K) (tVar 1) (tC (.int 0))) (tCons (tOp (rIx K) (tVar 1) (tC (.int 1))) (tCons (tOp (rIx K) (tVar 1) (tC (.int 2))) (tCons (tOp (rIx K) (tVar 1) (tC (.int 3))) (tNil))))))) (tNext)) (tRet (tCallS (sp_completion K) (WE W) (tCons (tOp (rIx K) (tVar 1) (tC (.int 0))) (tCons (tOp (rIx K) (tVar 1) (tC (.int 1))) (tNil)))))) (fun a cls d => tKn (He.ga K "NotValid") (tRet (tLst (tCons (tC (.str "refused")) (tCons (tCB (rIsE K (He.ga K "NotValid") a) (tCons (tVar 2) (tCons (tC (.ref (He.ga K "NotValid"))) (tNil)))) (tNil))))) cls d) (fun _ _ _ _ => False)
theorem pure_law_told {K : PySem.W.Frag} (Z : Zx K) {a0 a1 : V} {H : Hp} {Q : VK} {E : XK} (h : q_law_told K a0 a1 H Q E) : t_law_told K E { nx := fun _ H' => Q .non H', rt := Q } (start N_law_told [a0, a1]) H := by
  unfold t_law_told
  walk_at "go"
  rcases h with ⟨t, k, b, s, rfl, hd, q⟩ | ⟨t, n, rfl, hd, q⟩
  · obtain ⟨a, xs, rfl, hs, ha⟩ := Dp.lstOf hd
    obtain ⟨x0, x1, x2, x3, rfl, d0, d1, d2, d3⟩ := DpAll.four ha
    walk_at "go"
    refine ⟨t, k, b, s, d0, d1, d2, d3, fun c v H' s' hv => q v H' s' ?_, fun c => ?_⟩
    · unfold toldD
      rw [if_pos c]
      exact hv
    · refine i_wAs Z.mm fun x hx => ?_
      walk_at "go"
      intro p hp
      refine q _ _ (same_new (Same.refl H) hp) ?_
      unfold toldD
      rw [if_neg (by rw [c]; decide)]
      exact .lst (sqL upd_same) (.cons (.str _) (.cons (.bl _) .nil))
  · obtain ⟨a, xs, rfl, hs, ha⟩ := Dp.lstOf hd
    obtain ⟨x0, x1, rfl, d0, d1⟩ := DpAll.two ha
    walk_at "go"
    refine ⟨t, n, d0, d1, fun c v H' s' hv => q v H' s' ?_, fun c => ?_⟩
    · unfold toldC
      rw [if_pos c]
      exact hv
    · refine i_wAs Z.mm fun x hx => ?_
      walk_at "go"
      intro p hp
      refine q _ _ (same_new (Same.refl H) hp) ?_
      unfold toldC
      rw [if_neg (by rw [c]; decide)]
      exact .lst (sqL upd_same) (.cons (.str _) (.cons (.bl _) .nil))
def q_law_integer (K : PySem.W.Frag) (a0 a1 a2 : V) (H : Hp) (Q : VK) (E : XK) : Prop := ∃ (d : PyData) (lo : Int), a1 = .int lo ∧ Dp K H a0 d ∧ ((∃ hi : Int, a2 = .int hi ∧ Q (.bl (within d lo hi)) H) ∨ (a2 = .non ∧ lo = 0 ∧ Q (.bl (cnt d)) H))
def sp_law_integer (K : PySem.W.Frag) : Sp := fun vs H Q E => match vs with
  | [a0, a1, a2] => q_law_integer K a0 a1 a2 H Q E
  | _ => False
abbrev N_law_integer : List Str := ["_law_value", "_law_low", "_law_high"]
def t_law_integer (K : PySem.W.Frag) (E : XK) : TS :=
  tRet (tAndV (tCB (rIsi K) (tCons (tVar 0) (tCons (tC (.ty "int")) (tNil)))) (tAndV (tNotV (tCB (rIsi K) (tCons (tVar 0) (tCons (tC (.ty "bool")) (tNil))))) (tAndV (tOp (rGeI) (tVar 0) (tVar 1)) (tOrV (tOp (rIsN) (tVar 2) (tC .non)) (tOp (rLeI) (tVar 0) (tVar 2))))))
theorem pure_law_integer {K : PySem.W.Frag} {a0 a1 a2 : V} {H : Hp} {Q : VK} {E : XK} (h : q_law_integer K a0 a1 a2 H Q E) : t_law_integer K E { nx := fun _ H' => Q .non H', rt := Q } (start N_law_integer [a0, a1, a2]) H := by
  obtain ⟨d, lo, rfl, hd, q⟩ := h
  have noc : isI d = false → cnt d = false := fun h => by cases d <;> first | rfl | cases h
  have no : isI d = false → Q (.bl false) H := fun h => by
    rcases q with ⟨hi, rfl, q⟩ | ⟨rfl, rfl, q⟩
    · rw [within_no h] at q
      exact q
    · rw [noc h] at q
      exact q
  unfold t_law_integer
  walk_at "go"
  refine i_isiInt hd ?_
  walk_at "go"
  refine i_ite2 (fun c => ?_) (fun c => ?_)
  · walk_at "go"
    refine i_isiBool hd ?_
    walk_at "go"
    refine i_ite2 (fun c2 => ?_) (fun c2 => ?_)
    · obtain ⟨i, rfl⟩ := isI_inst c c2
      cases Dp.intOf hd
      walk_at "go"
      rcases q with ⟨hi, rfl, q⟩ | ⟨rfl, rfl, q⟩
      · have q : Q (.bl (decide (lo ≤ i) && decide (i ≤ hi))) H := q
        refine i_ite2 (fun c => ?_) (fun c => ?_)
        · rw [c] at q
          walk_at "go"
          exact q
        · rw [c] at q
          exact q
      · have q : Q (.bl (decide (0 ≤ i))) H := q
        refine i_ite2 (fun c => ?_) (fun c => ?_)
        · rw [c] at q
          walk_at "go"
          exact q
        · rw [c] at q
          exact q
    · exact no (by rw [← inst_isI, c, c2]; rfl)
  · exact no (by rw [← inst_isI, c]; rfl)
def q_law_fit (K : PySem.W.Frag) (a0 : V) (H : Hp) (Q : VK) (E : XK) : Prop := ∃ t k b s, (Dp K H a0 (.list [t, k, b, s]) ∨ Dp K H a0 (.tuple [t, k, b, s])) ∧ ∀ H', Same H H' → Q (.bl (partsB t k b s)) H'
def sp_law_fit (K : PySem.W.Frag) : Sp := fun vs H Q E => match vs with
  | [a0] => q_law_fit K a0 H Q E
  | _ => False
abbrev N_law_fit : List Str := ["_law_parts", "_law_kind"]
def t_law_fit (K : PySem.W.Frag) (E : XK) : TS :=
  tSeq (tAsg (tAndV (tCB (rIsi K) (tCons (tOp (rIx K) (tVar 0) (tC (.int 1))) (tCons (tC (.ty "str")) (tNil)))) (tOp (rInA K) (tOp (rIx K) (tVar 0) (tC (.int 1))) (tTup (tCons (tC (.str "read")) (tCons (tC (.str "write")) (tNil)))))) (gName 1)) (tRet (tAndV (tVar 1) (tAndV (tCall (sp_law_integer K) [] E0 (tCons (tOp (rIx K) (tVar 0) (tC (.int 0))) (tCons (tC (.int 0)) (tCons (tC (.int 3)) (tNil))))) (tAndV (tCall (sp_law_integer K) [] E0 (tCons (tOp (rIx K) (tVar 0) (tC (.int 2))) (tCons (tC (.int 0)) (tCons (tC (.int 7)) (tNil))))) (tCall (sp_law_integer K) [] E0 (tCons (tOp (rIx K) (tVar 0) (tC (.int 3))) (tCons (tC (.int 0)) (tCons (tC .non) (tNil)))))))))
theorem pure_law_fit {K : PySem.W.Frag} {a0 : V} {H : Hp} {Q : VK} {E : XK} (h : q_law_fit K a0 H Q E) : t_law_fit K E { nx := fun _ H' => Q .non H', rt := Q } (start N_law_fit [a0]) H := by
  obtain ⟨t, k, b, s, hd, q⟩ := h
  obtain ⟨a, xs, rfl, hs, ha⟩ : ∃ a xs, a0 = .ref a ∧ (SqL K H a xs ∨ SqT K H a xs) ∧ DpAll K H xs [t, k, b, s] := by
    rcases hd with hd | hd
    · obtain ⟨a, xs, e, h1, h2⟩ := Dp.lstOf hd
      exact ⟨a, xs, e, .inl h1, h2⟩
    · obtain ⟨a, xs, e, h1, h2⟩ := Dp.tupOf hd
      exact ⟨a, xs, e, .inr h1, h2⟩
  obtain ⟨x0, x1, x2, x3, rfl, d0, d1, d2, d3⟩ := DpAll.four ha
  have eqP : partsB t k b s = (isKd k && (within t 0 3 && (within b 0 7 && cnt s))) := by
    unfold partsB
    cases within t 0 3 <;> cases isKd k <;> rfl
  rw [eqP] at q
  -- behind the kind
  have rest : ∀ H' (c : Bool), Same H H' → isKd k = c → tRet (tAndV (tVar 1) (tAndV (tCall (sp_law_integer K) [] E0 (tCons (tOp (rIx K) (tVar 0) (tC (.int 0))) (tCons (tC (.int 0)) (tCons (tC (.int 3)) (tNil))))) (tAndV (tCall (sp_law_integer K) [] E0 (tCons (tOp (rIx K) (tVar 0) (tC (.int 2))) (tCons (tC (.int 0)) (tCons (tC (.int 7)) (tNil))))) (tCall (sp_law_integer K) [] E0 (tCons (tOp (rIx K) (tVar 0) (tC (.int 3))) (tCons (tC (.int 0)) (tCons (tC .non) (tNil)))))))) { nx := fun _ H' => Q .non H', rt := Q } [some (.ref a), some (.bl c)] H' := by
    intro H' c sm e
    have q := q H' sm
    have hs := sqS_same sm hs
    have d0 := Dp.same sm _ _ d0
    have d2 := Dp.same sm _ _ d2
    have d3 := Dp.same sm _ _ d3
    rw [e] at q
    walk_at "go"
    refine i_ite2 (fun c => ?_) (fun c => ?_)
    · rw [c, Bool.true_and] at q
      walk_at "go"
      refine i_ixS hs (by decide) rfl ?_
      walk_at "go"
      refine ⟨t, 0, rfl, d0, .inl ⟨3, rfl, ?_⟩⟩
      walk_at "go"
      refine i_ite2 (fun c => ?_) (fun c => ?_)
      · rw [c, Bool.true_and] at q
        walk_at "go"
        refine i_ixS hs (by decide) rfl ?_
        walk_at "go"
        refine ⟨b, 0, rfl, d2, .inl ⟨7, rfl, ?_⟩⟩
        walk_at "go"
        refine i_ite2 (fun c => ?_) (fun c => ?_)
        · rw [c, Bool.true_and] at q
          walk_at "go"
          refine i_ixS hs (by decide) rfl ?_
          walk_at "go"
          exact ⟨s, 0, rfl, d3, .inr ⟨rfl, rfl, q⟩⟩
        · rw [c] at q
          exact q
      · rw [c] at q
        exact q
    · rw [c] at q
      exact q
  unfold t_law_fit
  walk_at "go"
  refine i_ixS hs (by decide) rfl ?_
  walk_at "go"
  refine i_isiStr d1 ?_
  walk_at "go"
  refine i_ite2 (fun c => ?_) (fun c => ?_)
  · obtain ⟨x, rfl⟩ := str_of c
    cases Dp.strOf d1
    walk_at "go"
    refine i_ixS hs (by decide) rfl ?_
    walk_at "go"
    intro p hp
    refine i_inT (sqT upd_same) rfl rfl ?_
    exact rest _ _ (same_new (Same.refl H) hp) rfl
  · exact rest H false (Same.refl H) (by cases k <;> first | rfl | cases c)
def q_law_bent (K : PySem.W.Frag) (a0 a1 a2 : V) (H : Hp) (Q : VK) (E : XK) : Prop := ∃ (ds : List PyData) (n : Int) (o : PyData), Dp K H a0 (.tuple ds) ∧ a1 = .int n ∧ 0 ≤ n ∧ Dp K H a2 o ∧ shAll ds ∧ SeqAt.shaped o = true ∧ 1 ≤ ds.length ∧ ds.length ≤ 10 ∧ ∀ v d H', Same H H' → Dp K H' v d → (∀ es, d = .tuple es → shAll es) → Q v H'
def sp_law_bent (K : PySem.W.Frag) : Sp := fun vs H Q E => match vs with
  | [a0, a1, a2] => q_law_bent K a0 a1 a2 H Q E
  | _ => False
abbrev N_law_bent : List Str := ["_law_value", "_law_number", "_law_odd", "_law_kind", "_law_place"]
def t_law_bent (K : PySem.W.Frag) (E : XK) : TS :=
  tSeq (tAsg (tOp (rModI) (tVar 1) (tC (.int 8))) (gName 3)) (tSeq (tIfS (tTest (tOp (rLtI) (tVar 3) (tC (.int 3)))) (tRet (tVar 0)) (tNext)) (tSeq (tIfS (tTest (tOp (rEqD K) (tVar 3) (tC (.int 3)))) (tRet (tOp (rAddA K) (tVar 0) (tTup (tCons (tVar 2) (tNil))))) (tNext)) (tSeq (tIfS (tTest (tOp (rEqD K) (tVar 3) (tC (.int 4)))) (tRet (tSl (rSlX K) (tVar 0) (tNoPart) (tPart (tUn rNegI (tC (.int 1)))))) (tNext)) (tSeq (tIfS (tTest (tOp (rEqD K) (tVar 3) (tC (.int 5)))) (tRet (tCB (rListC K) (tCons (tVar 0) (tNil)))) (tNext)) (tSeq (tAsg (tOp (rModI) (tOp (rDivI) (tVar 1) (tC (.int 8))) (tCB (rLenA K) (tCons (tVar 0) (tNil)))) (gName 4)) (tRet (tOp (rAddA K) (tOp (rAddA K) (tSl (rSlX K) (tVar 0) (tNoPart) (tPart (tVar 4))) (tTup (tCons (tVar 2) (tNil)))) (tSl (rSlX K) (tVar 0) (tPart (tOp (rAddA K) (tVar 4) (tC (.int 1)))) (tNoPart)))))))))
theorem shAll.app {ds es : List PyData} (h : shAll ds) (k : shAll es) : shAll (ds ++ es) := fun d m => (List.mem_append.mp m).elim (h d) (k d)
theorem shAll.one {d : PyData} (h : SeqAt.shaped d = true) : shAll [d] := fun e m => by
  have : e = d := by simpa using m
  rw [this]
  exact h
theorem pure_law_bent {K : PySem.W.Frag} {a0 a1 a2 : V} {H : Hp} {Q : VK} {E : XK} (h : q_law_bent K a0 a1 a2 H Q E) : t_law_bent K E { nx := fun _ H' => Q .non H', rt := Q } (start N_law_bent [a0, a1, a2]) H := by
  obtain ⟨ds, n, o, hd, rfl, hn, ho, hsh, so, l1, l2, q⟩ := h
  have hd0 := hd
  obtain ⟨a, xs, rfl, hs, ha⟩ := Dp.tupOf hd
  have hl := DpAll.length ha
  unfold t_law_bent
  walk_at "go"
  refine i_ite2 (fun c => ?_) (fun c => ?_)
  · walk_at "go"
    exact q _ _ H (Same.refl H) hd0 fun es e => by cases e; exact hsh
  walk_at "go"
  refine i_ite2 (fun c => ?_) (fun c => ?_)
  · walk_at "go"
    intro p hp
    have s1 := same_new (o := .tup [a2]) (Same.refl H) hp
    refine i_catT ((Keep.same s1).sq hs) (sqT upd_same) (by rw [sizeLine_eq]; simp; omega) fun p2 H2 s2 h2 => ?_
    have s := Same.trans s1 s2
    exact q _ (.tuple (ds ++ [o])) H2 s (.tup h2 (DpAll.app (DpAll.same s _ _ ha) (.cons (Dp.same s _ _ ho) .nil))) fun es e => by cases e; exact shAll.app hsh (shAll.one so)
  walk_at "go"
  refine i_ite2 (fun c => ?_) (fun c => ?_)
  · walk_at "go"
    refine i_slInit hs (by omega) fun p H2 s h2 => ?_
    exact q _ (.tuple (ds.take (xs.length - 1))) H2 s (.tup h2 (DpAll.take _ (DpAll.same s _ _ ha))) fun es e => by cases e; exact fun d m => hsh d (List.mem_of_mem_take m)
  walk_at "go"
  refine i_ite2 (fun c => ?_) (fun c => ?_)
  · walk_at "go"
    intro p hp
    have s := same_new (o := .lst xs) (Same.refl H) hp
    exact q _ (.list ds) _ s (.lst (sqL upd_same) (DpAll.same s _ _ ha)) fun es e => by cases e
  walk_at "go"
  have j0 : 0 ≤ n / 8 % (xs.length : Int) := Int.emod_nonneg _ (by omega)
  have j1 : n / 8 % (xs.length : Int) < xs.length := Int.emod_lt_of_pos _ (by omega)
  obtain ⟨j, ej⟩ : ∃ j : Nat, n / 8 % (xs.length : Int) = (j : Int) := ⟨(n / 8 % (xs.length : Int)).toNat, by omega⟩
  rw [ej] at j1 ⊢
  walk_at "go"
  refine i_slTake hs (by omega) fun p1 H1 s1 hp1 => ?_
  walk_at "go"
  intro p2 hp2
  have s2 : Same H1 (upd H1 p2 (.tup [a2])) := same_new (Same.refl H1) hp2
  refine i_catT ((Keep.same s2).sq hp1) (sqT upd_same) (by rw [sizeLine_eq, List.length_take]; simp; omega) fun p3 H3 s3 hp3 => ?_
  have hts3 := (Keep.same s3).sq ((Keep.same s2).sq ((Keep.same s1).sq hs))
  walk_at "go"
  rw [show (j : Int) + 1 = ((j + 1 : Nat) : Int) by omega]
  refine i_slDrop hts3 (by omega) fun p4 H4 s4 hp4 => ?_
  refine i_catT ((Keep.same s4).sq hp3) hp4 (by rw [sizeLine_eq, List.length_append, List.length_take, List.length_drop]; simp; omega) fun p5 H5 s5 hp5 => ?_
  have s := Same.trans s1 (Same.trans s2 (Same.trans s3 (Same.trans s4 s5)))
  have d0 := DpAll.same s _ _ ha
  exact q _ (.tuple ((ds.take j ++ [o]) ++ ds.drop (j + 1))) H5 s (.tup hp5 (DpAll.app (DpAll.app (DpAll.take j d0) (.cons (Dp.same s _ _ ho) .nil)) (DpAll.drop (j + 1) d0))) fun es e => by
    cases e
    exact shAll.app (shAll.app (fun d m => hsh d (List.mem_of_mem_take m)) (shAll.one so)) fun d m => hsh d (List.mem_of_mem_drop m)
def q_law_same (K : PySem.W.Frag) (a0 a1 : V) (H : Hp) (Q : VK) (E : XK) : Prop := ∃ a b : Bool, a0 = .bl a ∧ a1 = .bl b ∧ Q (.bl (a == b)) H
def sp_law_same (K : PySem.W.Frag) : Sp := fun vs H Q E => match vs with
  | [a0, a1] => q_law_same K a0 a1 H Q E
  | _ => False
abbrev N_law_same : List Str := ["_law_told_here", "_law_due"]
def t_law_same (K : PySem.W.Frag) (E : XK) : TS :=
  tRet (tAndV (tCB (rIsi K) (tCons (tVar 0) (tCons (tC (.ty "bool")) (tNil)))) (tOp (rEqD K) (tVar 0) (tVar 1)))
theorem pure_law_same {K : PySem.W.Frag} {a0 a1 : V} {H : Hp} {Q : VK} {E : XK} (h : q_law_same K a0 a1 H Q E) : t_law_same K E { nx := fun _ H' => Q .non H', rt := Q } (start N_law_same [a0, a1]) H := by
  obtain ⟨a, b, rfl, rfl, q⟩ := h
  unfold t_law_same
  walk_at "go"
  refine i_isiBool (.bl a) ?_
  walk_at "go"
  exact q
def newD (d : PyData) (n : Int) : Bool := match d with
  | .tuple [t, k, b, p, s] => partsB t k b s && (within p 0 1 && (PyData.eqv p (.int (phs n)) && PyData.eqv s (.int n)))
  | _ => false
theorem newD_len {ds : List PyData} {n : Int} (h : ds.length ≠ 5) : newD (.tuple ds) n = false := by
  unfold newD
  split
  · rename_i e
    cases e
    exact absurd rfl h
  · rfl
theorem newD_no {d : PyData} {n : Int} (h : instB d "tuple" = false) : newD d n = false := by cases d <;> first | rfl | cases h
theorem five_of {ds : List PyData} (h : ds.length = 5) : ∃ a b c d e, ds = [a, b, c, d, e] := by
  match ds, h with
  | [a, b, c, d, e], _ => exact ⟨a, b, c, d, e, rfl⟩
theorem three_of {ds : List PyData} (h : ds.length = 3) : ∃ a b c, ds = [a, b, c] := by
  match ds, h with
  | [a, b, c], _ => exact ⟨a, b, c, rfl⟩
def newC (d : PyData) (n : Int) : Bool := match d with
  | .tuple [t, w, p] => within t 0 3 && (PyData.eqv w (.str "done") && (within p 0 1 && PyData.eqv p (.int (phs n))))
  | _ => false
theorem newC_len {ds : List PyData} {n : Int} (h : ds.length ≠ 3) : newC (.tuple ds) n = false := by
  unfold newC
  split
  · rename_i e
    cases e
    exact absurd rfl h
  · rfl
theorem newC_no {d : PyData} {n : Int} (h : instB d "tuple" = false) : newC d n = false := by cases d <;> first | rfl | cases h
theorem shStr (x : Str) (h : (PyData.str x).canLay0 = true) : SeqAt.shaped (.str x) = true := (Sh.str (n := 0) x h).shaped (by decide)
def q_is_new_descriptor (K : PySem.W.Frag) (a0 a1 : V) (H : Hp) (Q : VK) (E : XK) : Prop := ∃ (d : PyData) (n : Int), Dp K H a0 d ∧ a1 = .int n ∧ Q (.bl (newD d n)) H
def sp_is_new_descriptor (K : PySem.W.Frag) : Sp := fun vs H Q E => match vs with
  | [a0, a1] => q_is_new_descriptor K a0 a1 H Q E
  | _ => False
abbrev N_is_new_descriptor : List Str := ["value", "number", "tag", "kind", "block", "phase", "sequence"]
def t_is_new_descriptor (K : PySem.W.Frag) (E : XK) : TS :=
  tSeq (tIfS (tOr (tNot (tTru K (tCB (rIsi K) (tCons (tVar 0) (tCons (tC (.ty "tuple")) (tNil)))))) (tTest (tOp (rNeD K) (tCB (rLenA K) (tCons (tVar 0) (tNil))) (tC (.int 5))))) (tRet (tC (.bl false))) (tNext)) (tSeq (tAsg (tVar 0) (gTup K 5 (gCons (gName 2) (gCons (gName 3) (gCons (gName 4) (gCons (gName 5) (gCons (gName 6) (gNil)))))))) (tSeq (tIfS (tOr (tNot (tTru K (tCall (sp_are_parts K) [] E0 (tCons (tVar 2) (tCons (tVar 3) (tCons (tVar 4) (tCons (tVar 6) (tNil)))))))) (tNot (tTru K (tCall (sp_is_within K) [] E0 (tCons (tVar 5) (tCons (tC (.int 0)) (tCons (tC (.int 1)) (tNil)))))))) (tRet (tC (.bl false))) (tNext)) (tRet (tAndV (tOp (rEqD K) (tVar 5) (tCall (sp_phase_of K) [] E0 (tCons (tVar 1) (tNil)))) (tOp (rEqD K) (tVar 6) (tVar 1))))))
theorem pure_is_new_descriptor {K : PySem.W.Frag} {a0 a1 : V} {H : Hp} {Q : VK} {E : XK} (h : q_is_new_descriptor K a0 a1 H Q E) : t_is_new_descriptor K E { nx := fun _ H' => Q .non H', rt := Q } (start N_is_new_descriptor [a0, a1]) H := by
  obtain ⟨d, n, hd, rfl, q⟩ := h
  unfold t_is_new_descriptor
  walk_at "go"
  refine i_isiTup hd ?_
  walk_at "go"
  refine i_ite2 (fun c => ?_) (fun c => ?_)
  · rw [newD_no (by simpa using c)] at q
    walk_at "go"
    exact q
  obtain ⟨ds, rfl⟩ := tup_of (d := d) (by simpa using c)
  obtain ⟨a, xs, rfl, hs, ha⟩ := Dp.tupOf hd
  have hl := DpAll.length ha
  walk_at "go"
  refine i_ite2 (fun c => ?_) (fun c => ?_)
  · rw [newD_len (by simp at c; omega)] at q
    walk_at "go"
    exact q
  obtain ⟨t, k, b, p, s, rfl⟩ := five_of (ds := ds) (by simp at c; omega)
  obtain ⟨x0, x1, x2, x3, x4, rfl, d0, d1, d2, d3, d4⟩ := DpAll.five ha
  replace q : Q (.bl (partsB t k b s && (within p 0 1 && (PyData.eqv p (.int (phs n)) && PyData.eqv s (.int n))))) H := q
  walk_at "go"
  refine ⟨t, k, b, s, d0, d1, d2, d4, ?_⟩
  walk_at "go"
  refine i_ite2 (fun c => ?_) (fun c => ?_)
  · have c : partsB t k b s = false := by simpa using c
    rw [c] at q
    walk_at "go"
    exact q
  have c : partsB t k b s = true := by simpa using c
  rw [c, Bool.true_and] at q
  obtain ⟨_, _, m, _, rfl, rfl, rfl, rfl, _⟩ := parts_cnt c
  cases Dp.intOf d4
  walk_at "go"
  refine ⟨p, 0, 1, rfl, rfl, d3, ?_⟩
  walk_at "go"
  refine i_ite2 (fun c => ?_) (fun c => ?_)
  · have c : within p 0 1 = false := by simpa using c
    rw [c] at q
    walk_at "go"
    exact q
  have c : within p 0 1 = true := by simpa using c
  rw [c, Bool.true_and] at q
  obtain ⟨i, rfl, _⟩ := within_of c
  cases Dp.intOf d3
  have q : Q (.bl ((i == phs n) && (m == n))) H := q
  walk_at "go"
  refine ⟨n, rfl, ?_⟩
  walk_at "go"
  refine i_ite2 (fun c => ?_) (fun c => ?_)
  · rw [c, Bool.true_and] at q
    walk_at "go"
    exact q
  · rw [c] at q
    exact q
def q_law_new_descriptor (K : PySem.W.Frag) (a0 a1 : V) (H : Hp) (Q : VK) (E : XK) : Prop := ∃ (d : PyData) (n : Int), Dp K H a0 d ∧ a1 = .int n ∧ ∀ H', Same H H' → Q (.bl (newD d n)) H'
def sp_law_new_descriptor (K : PySem.W.Frag) : Sp := fun vs H Q E => match vs with
  | [a0, a1] => q_law_new_descriptor K a0 a1 H Q E
  | _ => False
abbrev N_law_new_descriptor : List Str := ["_law_value", "_law_number"]
def t_law_new_descriptor (K : PySem.W.Frag) (E : XK) : TS :=
  tSeq (tIfS (tOr (tNot (tTru K (tCB (rIsi K) (tCons (tVar 0) (tCons (tC (.ty "tuple")) (tNil)))))) (tOr (tTest (tOp (rNeD K) (tCB (rLenA K) (tCons (tVar 0) (tNil))) (tC (.int 5)))) (tNot (tTru K (tCall (sp_law_fit K) [] E0 (tCons (tTup (tCons (tOp (rIx K) (tVar 0) (tC (.int 0))) (tCons (tOp (rIx K) (tVar 0) (tC (.int 1))) (tCons (tOp (rIx K) (tVar 0) (tC (.int 2))) (tCons (tOp (rIx K) (tVar 0) (tC (.int 4))) (tNil)))))) (tNil))))))) (tRet (tC (.bl false))) (tNext)) (tRet (tAndV (tCall (sp_law_integer K) [] E0 (tCons (tOp (rIx K) (tVar 0) (tC (.int 3))) (tCons (tC (.int 0)) (tCons (tC (.int 1)) (tNil))))) (tAndV (tOp (rEqD K) (tOp (rIx K) (tVar 0) (tC (.int 3))) (tCall (sp_law_phase K) [] E0 (tCons (tVar 1) (tNil)))) (tOp (rEqD K) (tOp (rIx K) (tVar 0) (tC (.int 4))) (tVar 1)))))
theorem pure_law_new_descriptor {K : PySem.W.Frag} {a0 a1 : V} {H : Hp} {Q : VK} {E : XK} (h : q_law_new_descriptor K a0 a1 H Q E) : t_law_new_descriptor K E { nx := fun _ H' => Q .non H', rt := Q } (start N_law_new_descriptor [a0, a1]) H := by
  obtain ⟨d, n, hd, rfl, q⟩ := h
  unfold t_law_new_descriptor
  walk_at "go"
  refine i_isiTup hd ?_
  walk_at "go"
  refine i_ite2 (fun c => ?_) (fun c => ?_)
  · rw [newD_no (by simpa using c)] at q
    walk_at "go"
    exact q _ (Same.refl H)
  obtain ⟨ds, rfl⟩ := tup_of (d := d) (by simpa using c)
  obtain ⟨a, xs, rfl, hs, ha⟩ := Dp.tupOf hd
  have hl := DpAll.length ha
  walk_at "go"
  refine i_ite2 (fun c => ?_) (fun c => ?_)
  · rw [newD_len (by simp at c; omega)] at q
    walk_at "go"
    exact q _ (Same.refl H)
  obtain ⟨t, k, b, p, s, rfl⟩ := five_of (ds := ds) (by simp at c; omega)
  obtain ⟨x0, x1, x2, x3, x4, rfl, d0, d1, d2, d3, d4⟩ := DpAll.five ha
  replace q : ∀ H', Same H H' → Q (.bl (partsB t k b s && (within p 0 1 && (PyData.eqv p (.int (phs n)) && PyData.eqv s (.int n))))) H' := q
  walk_at "go"
  intro p1 hp1
  have s1 := same_new (o := .tup [x0, x1, x2, x4]) (Same.refl H) hp1
  walk_at "go"
  refine ⟨t, k, b, s, .inr (.tup (sqT upd_same) (.cons (Dp.same s1 _ _ d0) (.cons (Dp.same s1 _ _ d1) (.cons (Dp.same s1 _ _ d2) (.cons (Dp.same s1 _ _ d4) .nil))))), fun H2 s2 => ?_⟩
  have s12 := Same.trans s1 s2
  have hs2 := (Keep.same s12).sq hs
  have d3 := Dp.same s12 _ _ d3
  have d4 := Dp.same s12 _ _ d4
  walk_at "go"
  refine i_ite2 (fun c => ?_) (fun c => ?_)
  · have c : partsB t k b s = false := by simpa using c
    rw [c] at q
    walk_at "go"
    exact q _ s12
  have c : partsB t k b s = true := by simpa using c
  rw [c, Bool.true_and] at q
  obtain ⟨_, _, m, _, rfl, rfl, rfl, rfl, _⟩ := parts_cnt c
  cases Dp.intOf d4
  walk_at "go"
  refine ⟨p, 0, rfl, d3, .inl ⟨1, rfl, ?_⟩⟩
  walk_at "go"
  refine i_ite2 (fun c => ?_) (fun c => ?_)
  · rw [c, Bool.true_and] at q
    obtain ⟨i, rfl, _⟩ := within_of c
    cases Dp.intOf d3
    have q : ∀ H', Same H H' → Q (.bl ((i == phs n) && (m == n))) H' := q
    walk_at "go"
    refine ⟨n, rfl, fun H3 s3 => ?_⟩
    have s13 := Same.trans s12 s3
    have hs3 := (Keep.same s13).sq hs
    walk_at "go"
    refine i_ite2 (fun c => ?_) (fun c => ?_)
    · rw [c, Bool.true_and] at q
      walk_at "go"
      exact q _ s13
    · rw [c] at q
      exact q _ s13
  · rw [c] at q
    exact q _ s12
def q_is_new_completion (K : PySem.W.Frag) (a0 a1 : V) (H : Hp) (Q : VK) (E : XK) : Prop := ∃ (d : PyData) (n : Int), Dp K H a0 d ∧ (∀ es, d = .tuple es → shAll es) ∧ a1 = .int n ∧ Q (.bl (newC d n)) H
def sp_is_new_completion (K : PySem.W.Frag) : Sp := fun vs H Q E => match vs with
  | [a0, a1] => q_is_new_completion K a0 a1 H Q E
  | _ => False
abbrev N_is_new_completion : List Str := ["value", "number"]
def t_is_new_completion (K : PySem.W.Frag) (E : XK) : TS :=
  tSeq (tIfS (tOr (tNot (tTru K (tCB (rIsi K) (tCons (tVar 0) (tCons (tC (.ty "tuple")) (tNil)))))) (tOr (tTest (tOp (rNeD K) (tCB (rLenA K) (tCons (tVar 0) (tNil))) (tC (.int 3)))) (tNot (tTru K (tCall (sp_is_within K) [] E0 (tCons (tOp (rIx K) (tVar 0) (tC (.int 0))) (tCons (tC (.int 0)) (tCons (tOp (rSubI) (tC (.int 4)) (tC (.int 1))) (tNil))))))))) (tRet (tC (.bl false))) (tNext)) (tRet (tAndV (tOp (rEqD K) (tOp (rIx K) (tVar 0) (tC (.int 1))) (tC (.str "done"))) (tAndV (tCall (sp_is_within K) [] E0 (tCons (tOp (rIx K) (tVar 0) (tC (.int 2))) (tCons (tC (.int 0)) (tCons (tC (.int 1)) (tNil))))) (tOp (rEqD K) (tOp (rIx K) (tVar 0) (tC (.int 2))) (tCall (sp_phase_of K) [] E0 (tCons (tVar 1) (tNil)))))))
theorem pure_is_new_completion {K : PySem.W.Frag} {a0 a1 : V} {H : Hp} {Q : VK} {E : XK} (h : q_is_new_completion K a0 a1 H Q E) : t_is_new_completion K E { nx := fun _ H' => Q .non H', rt := Q } (start N_is_new_completion [a0, a1]) H := by
  obtain ⟨d, n, hd, sh, rfl, q⟩ := h
  unfold t_is_new_completion
  walk_at "go"
  refine i_isiTup hd ?_
  walk_at "go"
  refine i_ite2 (fun c => ?_) (fun c => ?_)
  · rw [newC_no (by simpa using c)] at q
    walk_at "go"
    exact q
  obtain ⟨ds, rfl⟩ := tup_of (d := d) (by simpa using c)
  have sh := sh ds rfl
  obtain ⟨a, xs, rfl, hs, ha⟩ := Dp.tupOf hd
  have hl := DpAll.length ha
  walk_at "go"
  refine i_ite2 (fun c => ?_) (fun c => ?_)
  · rw [newC_len (by simp at c; omega)] at q
    walk_at "go"
    exact q
  obtain ⟨t, w, p, rfl⟩ := three_of (ds := ds) (by simp at c; omega)
  obtain ⟨x0, x1, x2, rfl, d0, d1, d2⟩ := DpAll.three ha
  have q : Q (.bl (within t 0 3 && (PyData.eqv w (.str "done") && (within p 0 1 && PyData.eqv p (.int (phs n)))))) H := q
  walk_at "go"
  refine ⟨t, 0, 3, rfl, rfl, d0, ?_⟩
  walk_at "go"
  refine i_ite2 (fun c => ?_) (fun c => ?_)
  · have c : within t 0 3 = false := by simpa using c
    rw [c] at q
    walk_at "go"
    exact q
  have c : within t 0 3 = true := by simpa using c
  rw [c, Bool.true_and] at q
  walk_at "go"
  refine i_eqD d1 (.str "done") (sh w (by simp)) (by decide +kernel) ?_
  walk_at "go"
  refine i_ite2 (fun c => ?_) (fun c => ?_)
  · rw [c, Bool.true_and] at q
    walk_at "go"
    refine ⟨p, 0, 1, rfl, rfl, d2, ?_⟩
    walk_at "go"
    refine i_ite2 (fun c => ?_) (fun c => ?_)
    · rw [c, Bool.true_and] at q
      obtain ⟨i, rfl, _⟩ := within_of c
      cases Dp.intOf d2
      walk_at "go"
      refine ⟨n, rfl, ?_⟩
      walk_at "go"
      exact q
    · rw [c] at q
      exact q
  · rw [c] at q
    exact q
def q_law_new_completion (K : PySem.W.Frag) (a0 a1 : V) (H : Hp) (Q : VK) (E : XK) : Prop := ∃ (d : PyData) (n : Int), Dp K H a0 d ∧ (∀ es, d = .tuple es → shAll es) ∧ a1 = .int n ∧ ∀ H', Same H H' → Q (.bl (newC d n)) H'
def sp_law_new_completion (K : PySem.W.Frag) : Sp := fun vs H Q E => match vs with
  | [a0, a1] => q_law_new_completion K a0 a1 H Q E
  | _ => False
abbrev N_law_new_completion : List Str := ["_law_value", "_law_number"]
def t_law_new_completion (K : PySem.W.Frag) (E : XK) : TS :=
  tSeq (tIfS (tOr (tNot (tTru K (tCB (rIsi K) (tCons (tVar 0) (tCons (tC (.ty "tuple")) (tNil)))))) (tOr (tTest (tOp (rNeD K) (tCB (rLenA K) (tCons (tVar 0) (tNil))) (tC (.int 3)))) (tNot (tTru K (tCall (sp_law_integer K) [] E0 (tCons (tOp (rIx K) (tVar 0) (tC (.int 0))) (tCons (tC (.int 0)) (tCons (tC (.int 3)) (tNil))))))))) (tRet (tC (.bl false))) (tNext)) (tSeq (tIfS (tOr (tNot (tTru K (tCB (rIsi K) (tCons (tOp (rIx K) (tVar 0) (tC (.int 1))) (tCons (tC (.ty "str")) (tNil)))))) (tTest (tOp (rNeD K) (tOp (rIx K) (tVar 0) (tC (.int 1))) (tC (.str "done"))))) (tRet (tC (.bl false))) (tNext)) (tRet (tAndV (tCall (sp_law_integer K) [] E0 (tCons (tOp (rIx K) (tVar 0) (tC (.int 2))) (tCons (tC (.int 0)) (tCons (tC (.int 1)) (tNil))))) (tOp (rEqD K) (tOp (rIx K) (tVar 0) (tC (.int 2))) (tCall (sp_law_phase K) [] E0 (tCons (tVar 1) (tNil)))))))
theorem pure_law_new_completion {K : PySem.W.Frag} {a0 a1 : V} {H : Hp} {Q : VK} {E : XK} (h : q_law_new_completion K a0 a1 H Q E) : t_law_new_completion K E { nx := fun _ H' => Q .non H', rt := Q } (start N_law_new_completion [a0, a1]) H := by
  obtain ⟨d, n, hd, sh, rfl, q⟩ := h
  unfold t_law_new_completion
  walk_at "go"
  refine i_isiTup hd ?_
  walk_at "go"
  refine i_ite2 (fun c => ?_) (fun c => ?_)
  · rw [newC_no (by simpa using c)] at q
    walk_at "go"
    exact q _ (Same.refl H)
  obtain ⟨ds, rfl⟩ := tup_of (d := d) (by simpa using c)
  have sh := sh ds rfl
  obtain ⟨a, xs, rfl, hs, ha⟩ := Dp.tupOf hd
  have hl := DpAll.length ha
  walk_at "go"
  refine i_ite2 (fun c => ?_) (fun c => ?_)
  · rw [newC_len (by simp at c; omega)] at q
    walk_at "go"
    exact q _ (Same.refl H)
  obtain ⟨t, w, p, rfl⟩ := three_of (ds := ds) (by simp at c; omega)
  obtain ⟨x0, x1, x2, rfl, d0, d1, d2⟩ := DpAll.three ha
  have q : ∀ H', Same H H' → Q (.bl (within t 0 3 && (PyData.eqv w (.str "done") && (within p 0 1 && PyData.eqv p (.int (phs n)))))) H' := q
  walk_at "go"
  refine ⟨t, 0, rfl, d0, .inl ⟨3, rfl, ?_⟩⟩
  walk_at "go"
  refine i_ite2 (fun c => ?_) (fun c => ?_)
  · have c : within t 0 3 = false := by simpa using c
    rw [c] at q
    walk_at "go"
    exact q _ (Same.refl H)
  have c : within t 0 3 = true := by simpa using c
  rw [c, Bool.true_and] at q
  walk_at "go"
  refine i_isiStr d1 ?_
  walk_at "go"
  refine i_ite2 (fun c => ?_) (fun c => ?_)
  · have c : PyData.eqv w (.str "done") = false := by cases w <;> first | rfl | cases c
    rw [c] at q
    walk_at "go"
    exact q _ (Same.refl H)
  walk_at "go"
  refine i_neD d1 (.str "done") (sh w (by simp)) (by decide +kernel) ?_
  walk_at "go"
  refine i_ite2 (fun c => ?_) (fun c => ?_)
  · have c : PyData.eqv w (.str "done") = false := by simpa using c
    rw [c] at q
    walk_at "go"
    exact q _ (Same.refl H)
  have c : PyData.eqv w (.str "done") = true := by simpa using c
  rw [c, Bool.true_and] at q
  walk_at "go"
  refine ⟨p, 0, rfl, d2, .inl ⟨1, rfl, ?_⟩⟩
  walk_at "go"
  refine i_ite2 (fun c => ?_) (fun c => ?_)
  · rw [c, Bool.true_and] at q
    obtain ⟨i, rfl, _⟩ := within_of c
    cases Dp.intOf d2
    walk_at "go"
    refine ⟨n, rfl, fun H3 s3 => ?_⟩
    walk_at "go"
    exact q _ s3
  · rw [c] at q
    exact q _ (Same.refl H)
theorem four_of {ds : List PyData} (h : ds.length = 4) : ∃ a b c d, ds = [a, b, c, d] := by
  match ds, h with
  | [a, b, c, d], _ => exact ⟨a, b, c, d, rfl⟩
theorem sh_ref : Sh 2 refD := ⟨by decide +kernel, by decide +kernel⟩
theorem sh_str1 {x : Str} (h : SeqAt.shaped (.str x) = true) : Sh 1 (.str x) := Sh.str x (Sh.of h).1
theorem sh_desc {i j m p : Int} {x : Str} (h : SeqAt.shaped (.str x) = true) : Sh 2 (.tuple [.int i, .str x, .int j, .int p, .int m]) := Sh.tup fun d hd => by
  have : d = .int i ∨ d = .str x ∨ d = .int j ∨ d = .int p ∨ d = .int m := by simpa using hd
  rcases this with rfl | rfl | rfl | rfl | rfl
  · exact Sh.int _
  · exact sh_str1 h
  · exact Sh.int _
  · exact Sh.int _
  · exact Sh.int _
theorem sh_comp {i p : Int} : Sh 2 (.tuple [.int i, .str "done", .int p]) := Sh.tup3 (Sh.int _) (Sh.str _ (by decide +kernel)) (Sh.int _)
theorem shAll5 {a b c d e : PyData} (ha : SeqAt.shaped a = true) (hb : SeqAt.shaped b = true) (hc : SeqAt.shaped c = true) (hd : SeqAt.shaped d = true) (he : SeqAt.shaped e = true) : shAll [a, b, c, d, e] := fun x m => by
  have : x = a ∨ x = b ∨ x = c ∨ x = d ∨ x = e := by simpa using m
  rcases this with rfl | rfl | rfl | rfl | rfl <;> assumption
theorem shI (i : Int) : SeqAt.shaped (.int i) = true := (Sh.int (n := 0) i).shaped (by decide)
/-- what stands of the parts at a moment -/
structure Pt (K : PySem.W.Frag) (H : Hp) (pp : Addr) (t k b s : PyData) : Prop where
  at_ : ∃ ys, H pp = some (.lst ys) ∧ DpAll K H ys [t, k, b, s]
  tu : tupAll [t, k, b, s] = true
  sh : shAll [t, k, b, s]
theorem Pt.same {K : PySem.W.Frag} {H H' : Hp} {pp : Addr} {t k b s : PyData} (h : Pt K H pp t k b s) (e : Same H H') : Pt K H' pp t k b s := by
  obtain ⟨⟨ys, h1, h2⟩, h3, h4⟩ := h
  exact ⟨⟨ys, e _ _ h1, DpAll.same e _ _ h2⟩, h3, h4⟩
theorem Pt.dp {K : PySem.W.Frag} {H : Hp} {pp : Addr} {t k b s : PyData} (h : Pt K H pp t k b s) : Dp K H (.ref pp) (.list [t, k, b, s]) := by
  obtain ⟨⟨ys, h1, h2⟩, h3, h4⟩ := h
  exact .lst (sqL h1) h2
def q_law (K : PySem.W.Frag) (a0 : V) (H : Hp) (Q : VK) (E : XK) : Prop := ∃ (a : Addr) (ns : List Int), a0 = .ref a ∧ ns.length ≤ 63 ∧ SqL K H a (ns.map V.int) ∧ ∀ H', Q (.bl true) H'
def sp_law (K : PySem.W.Frag) : Sp := fun vs H Q E => match vs with
  | [a0] => q_law K a0 H Q E
  | _ => False
abbrev N_law : List Str := ["_law_script", "_law_tape_here", "_law_k", "_law_number", "_law_pick", "_law_odd", "_law_parts", "_law_told_here", "_law_other", "_law_value", "_law_tag"]
def t_law (K : PySem.W.Frag) (E : XK) : TS :=
  tSeq (tIfS (tOr (tTest (tOp (rNeD K) (tTup (tCons (tC (.int 4)) (tCons (tC (.int 4)) (tCons (tC (.int 0)) (tCons (tC (.int 1)) (tNil)))))) (tTup (tCons (tC (.int 4)) (tCons (tC (.int 4)) (tCons (tC (.int 0)) (tCons (tC (.int 1)) (tNil)))))))) (tTest (tOp (rNeD K) (tLc (iRng1 (tCons (tC (.int 4)) (tNil))) (gName 10) (tYes) (tCall (sp_buffer_page K) [] E0 (tCons (tVar 10) (tNil))) [10]) (tLst (tCons (tC (.int 2)) (tCons (tC (.int 3)) (tCons (tC (.int 4)) (tCons (tC (.int 5)) (tNil))))))))) (tRet (tC (.bl false))) (tNext)) (tSeq (tAsg (tCall (sp_law_tape K) [] E0 (tCons (tVar 0) (tNil))) (gName 1)) (tSeq (tFor (iRng1 (tCons (tCB (rMin2) (tCons (tC (.int 20)) (tCons (tOp (rAddA K) (tC (.int 1)) (tOp (rDivI) (tCB (rLenA K) (tCons (tVar 1) (tNil))) (tC (.int 5)))) (tNil)))) (tNil))) (gName 2) (tSeq (tAsg (tOp (rAddA K) (tOp (rMulA K) (tCall (sp_law_at K) [] E0 (tCons (tVar 1) (tCons (tOp (rMulA K) (tC (.int 5)) (tVar 2)) (tNil)))) (tOp (rIx K) (tLst (tCons (tC (.int 1)) (tCons (tC (.int 1)) (tCons (tC (.int 1000)) (tNil))))) (tOp (rModI) (tVar 2) (tC (.int 3))))) (tOp (rModI) (tCall (sp_law_at K) [] E0 (tCons (tVar 1) (tCons (tOp (rAddA K) (tOp (rMulA K) (tC (.int 5)) (tVar 2)) (tC (.int 1))) (tNil)))) (tC (.int 9)))) (gName 3)) (tSeq (tAsg (tCall (sp_law_at K) [] E0 (tCons (tVar 1) (tCons (tOp (rAddA K) (tOp (rMulA K) (tC (.int 5)) (tVar 2)) (tC (.int 2))) (tNil)))) (gName 4)) (tSeq (tAsg (tOp (rIx K) (tLst (tCons (tUn rNegI (tC (.int 1))) (tCons (tC (.int 4)) (tCons (tC (.int 8)) (tCons (tC (.bl true)) (tCons (tC .non) (tCons (tC (.str "read")) (tCons (tC (.str "done")) (tCons (tC (.int 0)) (tCons (tC (.int 1)) (tCons (tC (.str "x")) (tCons (tTup (tCons (tC (.int 1)) (tNil))) (tCons (tC (.str "other")) (tNil)))))))))))))) (tOp (rModI) (tCall (sp_law_at K) [] E0 (tCons (tVar 1) (tCons (tOp (rAddA K) (tOp (rMulA K) (tC (.int 5)) (tVar 2)) (tC (.int 3))) (tNil)))) (tC (.int 12)))) (gName 5)) (tSeq (tIfS (tOr (tTest (tOp (rNeD K) (tCall (sp_slot_of K) [] E0 (tCons (tVar 3) (tNil))) (tOp (rModI) (tVar 3) (tC (.int 4))))) (tTest (tOp (rNeD K) (tCall (sp_phase_of K) [] E0 (tCons (tVar 3) (tNil))) (tCall (sp_law_phase K) [] E0 (tCons (tVar 3) (tNil)))))) (tRet (tC (.bl false))) (tNext)) (tSeq (tAsg (tLst (tCons (tOp (rModI) (tVar 4) (tC (.int 4))) (tCons (tOp (rIx K) (tLst (tCons (tC (.str "read")) (tCons (tC (.str "write")) (tNil)))) (tOp (rModI) (tOp (rDivI) (tVar 4) (tC (.int 4))) (tC (.int 2)))) (tCons (tOp (rModI) (tOp (rDivI) (tVar 4) (tC (.int 8))) (tC (.int 8))) (tCons (tVar 3) (tNil)))))) (gName 6)) (tCut (tIfS (tTest (tOp (rEqD K) (tOp (rModI) (tVar 4) (tC (.int 3))) (tC (.int 0)))) (tAsg (tVar 5) (gSub (tVar 6) (tOp (rModI) (tOp (rDivI) (tVar 4) (tC (.int 3))) (tC (.int 4))) rSetL)) (tNext)) (tSeq (tAsg (tCall (sp_law_told K) [] E0 (tCons (tC (.str "descriptor")) (tCons (tVar 6) (tNil)))) (gName 7)) (tCut (tIfS (tNot (tTru K (tCall (sp_law_fit K) [] E0 (tCons (tVar 6) (tNil))))) (tSeq (tIfS (tTest (tOp (rNeD K) (tVar 7) (tLst (tCons (tC (.str "refused")) (tCons (tC (.bl true)) (tNil)))))) (tRet (tC (.bl false))) (tNext)) (tSeq (tAsg (tLst (tCons (tC (.int 1)) (tCons (tC (.str "read")) (tCons (tC (.int 2)) (tCons (tVar 3) (tNil)))))) (gName 6)) (tAsg (tCall (sp_descriptor K) [] E0 (tCons (tC (.int 1)) (tCons (tC (.str "read")) (tCons (tC (.int 2)) (tCons (tVar 3) (tNil)))))) (gName 7)))) (tNext)) (tSeq (tIfS (tTest (tOp (rNeD K) (tVar 7) (tTup (tCons (tOp (rIx K) (tVar 6) (tC (.int 0))) (tCons (tOp (rIx K) (tVar 6) (tC (.int 1))) (tCons (tOp (rIx K) (tVar 6) (tC (.int 2))) (tCons (tCall (sp_law_phase K) [] E0 (tCons (tOp (rIx K) (tVar 6) (tC (.int 3))) (tNil))) (tCons (tOp (rIx K) (tVar 6) (tC (.int 3))) (tNil))))))))) (tRet (tC (.bl false))) (tNext)) (tSeq (tAsg (tOp (rAddA K) (tVar 3) (tOp (rIx K) (tLst (tCons (tC (.int 0)) (tCons (tC (.int 0)) (tCons (tC (.int 4)) (tCons (tC (.int 8)) (tCons (tC (.int 1)) (tNil))))))) (tOp (rModI) (tCall (sp_law_at K) [] E0 (tCons (tVar 1) (tCons (tOp (rAddA K) (tOp (rMulA K) (tC (.int 5)) (tVar 2)) (tC (.int 4))) (tNil)))) (tC (.int 5))))) (gName 8)) (tSeq (tAsg (tCall (sp_law_bent K) [] E0 (tCons (tVar 7) (tCons (tCall (sp_law_at K) [] E0 (tCons (tVar 1) (tCons (tOp (rAddA K) (tOp (rMulA K) (tC (.int 5)) (tVar 2)) (tC (.int 4))) (tNil)))) (tCons (tVar 5) (tNil))))) (gName 9)) (tSeq (tIfS (tNot (tTru K (tCall (sp_law_same K) [] E0 (tCons (tCall (sp_is_new_descriptor K) [] E0 (tCons (tVar 9) (tCons (tVar 8) (tNil)))) (tCons (tCall (sp_law_new_descriptor K) [] E0 (tCons (tVar 9) (tCons (tVar 8) (tNil)))) (tNil)))))) (tRet (tC (.bl false))) (tNext)) (tSeq (tAsg (tCall (sp_law_told K) [] E0 (tCons (tC (.str "completion")) (tCons (tLst (tCons (tOp (rIx K) (tVar 6) (tC (.int 0))) (tCons (tVar 3) (tNil)))) (tNil)))) (gName 7)) (tSeq (tIfS (tOr (tTest (tOp (rNeD K) (tVar 7) (tTup (tCons (tOp (rIx K) (tVar 6) (tC (.int 0))) (tCons (tC (.str "done")) (tCons (tCall (sp_law_phase K) [] E0 (tCons (tVar 3) (tNil))) (tNil))))))) (tTest (tOp (rNeD K) (tCall (sp_law_told K) [] E0 (tCons (tC (.str "completion")) (tCons (tLst (tCons (tC (.int 4)) (tCons (tC (.int 0)) (tNil)))) (tNil)))) (tLst (tCons (tC (.str "refused")) (tCons (tC (.bl true)) (tNil))))))) (tRet (tC (.bl false))) (tNext)) (tSeq (tIfS (tTest (tOp (rNeD K) (tCall (sp_law_told K) [] E0 (tCons (tC (.str "completion")) (tCons (tLst (tCons (tC (.int 0)) (tCons (tUn rNegI (tC (.int 1))) (tNil)))) (tNil)))) (tLst (tCons (tC (.str "refused")) (tCons (tC (.bl true)) (tNil)))))) (tRet (tC (.bl false))) (tNext)) (tSeq (tAsg (tCall (sp_law_bent K) [] E0 (tCons (tVar 7) (tCons (tCall (sp_law_at K) [] E0 (tCons (tVar 1) (tCons (tOp (rAddA K) (tOp (rMulA K) (tC (.int 5)) (tVar 2)) (tC (.int 4))) (tNil)))) (tCons (tVar 5) (tNil))))) (gName 9)) (tIfS (tNot (tTru K (tCall (sp_law_same K) [] E0 (tCons (tCall (sp_is_new_completion K) [] E0 (tCons (tVar 9) (tCons (tVar 8) (tNil)))) (tCons (tCall (sp_law_new_completion K) [] E0 (tCons (tVar 9) (tCons (tVar 8) (tNil)))) (tNil)))))) (tRet (tC (.bl false))) (tNext))))))))))))))))))) (tRet (tC (.bl true)))))
theorem pure_law {K : PySem.W.Frag} (Z : Zx K) {a0 : V} {H : Hp} {Q : VK} {E : XK} (h : q_law K a0 H Q E) : t_law K E { nx := fun _ H' => Q .non H', rt := Q } (start N_law [a0]) H := by
  obtain ⟨sc, ns, rfl, hns, hsc, q⟩ := h
  unfold t_law
  walk_at "go"
  intro p1 hp1
  walk_at "go"
  intro p2 hp2
  have n12 : p1 ≠ p2 := ne_fresh hp2 upd_same
  have four : ∀ (H : Hp) (p : Addr), SqT K H p [.int 4, .int 4, .int 0, .int 1] → Dp K H (.ref p) (.tuple ([4, 4, 0, 1].map .int)) := fun H p h => .tup h (DpAll.ints [4, 4, 0, 1])
  refine i_neR (n := 3) (four _ _ (sqT (upd_at n12 upd_same))) (four _ _ (sqT upd_same)) ⟨by decide +kernel, by decide +kernel⟩ (by decide) ?_
  have s2 : Same H (upd (upd H p1 (.tup [.int 4, .int 4, .int 0, .int 1])) p2 (.tup [.int 4, .int 4, .int 0, .int 1])) := same_nx (same_nx (Same.refl H) hp1) hp2
  revert s2
  generalize upd (upd H p1 (.tup [.int 4, .int 4, .int 0, .int 1])) p2 (.tup [.int 4, .int 4, .int 0, .int 1]) = H2
  intro s2
  walk_at "go"
  refine lc_rng (fun k acc H' => Same H2 H' ∧ acc = ((List.range k).map fun j : Nat => V.int (2 + (0 + (j : Int))))) ?_ ?_ ?_
  · intro D hD
    exact ⟨same_new (Same.refl H2) hD, rfl⟩
  · rintro k D acc H' hk hl hD hD' ⟨s, rfl⟩
    walk_at "go"
    refine ⟨_, rfl, ?_⟩
    refine lc_put hD' hl (by simp at hk; omega) ⟨same_new s hD, ?_⟩
    rw [List.range_succ, List.map_append]
    rfl
  rintro D acc H3 hl hD hD' ⟨s3, rfl⟩
  walk_at "go"
  intro p4 hp4
  have nD4 : D ≠ p4 := ne_fresh hp4 hD'
  have s4 := same_nx s3 (o := .lst [.int 2, .int 3, .int 4, .int 5]) hp4
  refine i_neR (n := 3) (d := .list ([2, 3, 4, 5].map .int)) (.lst (sqL (upd_at nD4 hD')) (DpAll.ints [2, 3, 4, 5])) (.lst (sqL upd_same) (DpAll.ints [2, 3, 4, 5])) ⟨by decide +kernel, by decide +kernel⟩ (by decide) ?_
  walk_at "go"
  refine ⟨sc, ns, rfl, sqL_same (Same.trans s2 s4) hsc, hns, fun a ms H5 s5 ha hx hm hz => ?_⟩
  walk_at "go"
  rw [List.length_map]
  have hmn : (if 1 + (ms.length : Int) / 5 < 20 then 1 + (ms.length : Int) / 5 else 20) ≤ 20 ∧ 0 ≤ (if 1 + (ms.length : Int) / 5 < 20 then 1 + (ms.length : Int) / 5 else 20) := by
    split <;> omega
  revert hmn
  generalize (if 1 + (ms.length : Int) / 5 < 20 then 1 + (ms.length : Int) / 5 else 20) = mn
  rintro ⟨hmn1, hmn0⟩
  walk_at "go"
  refine f_rng (fun k σ' H' => ∃ x2 x3 x4 x5 x6 x7 x8 x9 : Option V, σ' = [some (.ref sc), some (.ref a), x2, x3, x4, x5, x6, x7, x8, x9, none] ∧ H' a = some (.lst (ms.map V.int))) ?_ ?_ ?_
  · exact ⟨_, _, _, _, _, _, _, _, rfl, hx⟩
  rotate_left
  · rintro σ' H' ⟨x2, x3, x4, x5, x6, x7, x8, x9, rfl, h⟩
    walk_at "go"
    exact q _
  clear hx hsc
  rintro k σ' H hk' ⟨x2, x3, x4, x5, x6, x7, x8, x9, rfl, hx⟩
  have hk : (0 : Int) ≤ 0 + (k : Int) ∧ 0 + (k : Int) < 20 := by omega
  walk_at "go"
  refine ⟨a, ms, _, rfl, rfl, hx, hm, by omega, fun v1 hv0 hv1 => ?_⟩
  walk_at "go"
  intro p1 hp1
  have s1 := fun o => same_new (o := o) (Same.refl H) hp1
  obtain ⟨c, hc, hc0⟩ : ∃ c : Int, ([V.int 1, .int 1, .int 1000] : List V)[((0 + (k : Int)) % 3).toNat]? = some (.int c) ∧ 0 ≤ c := by
    have : (0 + (k : Int)) % 3 = 0 ∨ (0 + (k : Int)) % 3 = 1 ∨ (0 + (k : Int)) % 3 = 2 := by omega
    rcases this with e | e | e <;> rw [e]
    · exact ⟨1, rfl, by decide⟩
    · exact ⟨1, rfl, by decide⟩
    · exact ⟨1000, rfl, by decide⟩
  walk_at "go"
  refine i_ixLn (sqL upd_same) (Int.emod_nonneg _ (by decide)) hc ?_
  refine i_mulI (.inl ⟨by omega, by omega⟩) ?_
  walk_at "go"
  refine ⟨a, ms, _, rfl, rfl, (s1 _) _ _ hx, hm, by omega, fun v2 hv2 hv3 => ?_⟩
  have s1 := s1 (.lst [.int 1, .int 1, .int 1000])
  revert s1
  generalize upd H p1 (.lst [.int 1, .int 1, .int 1000]) = H1
  intro s1
  have hx1 := s1 _ _ hx
  walk_at "go"
  have hN : 0 ≤ v1 * c + v2 % 9 := by
    have := Int.mul_nonneg hv0 hc0
    omega
  revert hN
  generalize v1 * c + v2 % 9 = N
  intro hN
  refine ⟨a, ms, _, rfl, rfl, hx1, hm, by omega, fun v3 hv4 hv5 => ?_⟩
  walk_at "go"
  intro p2 hp2
  walk_at "go"
  intro p3 hp3
  have n23 : p2 ≠ p3 := ne_fresh hp3 upd_same
  have s3 := fun o => same_nx (o := o) (same_nx (o := .tup [.int 1]) (Same.refl H1) hp2) hp3
  walk_at "go"
  refine ⟨a, ms, _, rfl, rfl, (s3 _) _ _ hx1, hm, by omega, fun v4 hv6 hv7 => ?_⟩
  walk_at "go"
  have s3 := s3 (.lst [.int (-1), .int 4, .int 8, .bl true, .non, .str "read", .str "done", .int 0, .int 1, .str "x", .ref p2, .str "other"])
  have g2 : SqT K (upd (upd H1 p2 (.tup [.int 1])) p3 (.lst [.int (-1), .int 4, .int 8, .bl true, .non, .str "read", .str "done", .int 0, .int 1, .str "x", .ref p2, .str "other"])) p2 [.int 1] := sqT (upd_at n23 upd_same)
  have g3 : SqL K (upd (upd H1 p2 (.tup [.int 1])) p3 (.lst [.int (-1), .int 4, .int 8, .bl true, .non, .str "read", .str "done", .int 0, .int 1, .str "x", .ref p2, .str "other"])) p3 [.int (-1), .int 4, .int 8, .bl true, .non, .str "read", .str "done", .int 0, .int 1, .str "x", .ref p2, .str "other"] := sqL upd_same
  revert s3 g2 g3
  generalize upd (upd H1 p2 (.tup [.int 1])) p3 (.lst [.int (-1), .int 4, .int 8, .bl true, .non, .str "read", .str "done", .int 0, .int 1, .str "x", .ref p2, .str "other"]) = H3
  intro s3 g2 g3
  have hx3 := s3 _ _ hx1
  obtain ⟨xo, od, hxo, hod, so, tod⟩ : ∃ (x : V) (d : PyData), ([.int (-1), .int 4, .int 8, .bl true, .non, .str "read", .str "done", .int 0, .int 1, .str "x", .ref p2, .str "other"] : List V)[(v4 % 12).toNat]? = some x ∧ Dp K H3 x d ∧ SeqAt.shaped d = true ∧ tupOnly d = true := by
    have : v4 % 12 = 0 ∨ v4 % 12 = 1 ∨ v4 % 12 = 2 ∨ v4 % 12 = 3 ∨ v4 % 12 = 4 ∨ v4 % 12 = 5 ∨ v4 % 12 = 6 ∨ v4 % 12 = 7 ∨ v4 % 12 = 8 ∨ v4 % 12 = 9 ∨ v4 % 12 = 10 ∨ v4 % 12 = 11 := by omega
    rcases this with e | e | e | e | e | e | e | e | e | e | e | e <;> rw [e]
    · exact ⟨_, .int (-1), rfl, .int _, by decide +kernel, rfl⟩
    · exact ⟨_, .int 4, rfl, .int _, by decide +kernel, rfl⟩
    · exact ⟨_, .int 8, rfl, .int _, by decide +kernel, rfl⟩
    · exact ⟨_, .bool true, rfl, .bl _, by decide +kernel, rfl⟩
    · exact ⟨_, .none, rfl, .non, by decide +kernel, rfl⟩
    · exact ⟨_, .str "read", rfl, .str _, by decide +kernel, rfl⟩
    · exact ⟨_, .str "done", rfl, .str _, by decide +kernel, rfl⟩
    · exact ⟨_, .int 0, rfl, .int _, by decide +kernel, rfl⟩
    · exact ⟨_, .int 1, rfl, .int _, by decide +kernel, rfl⟩
    · exact ⟨_, .str "x", rfl, .str _, by decide +kernel, rfl⟩
    · exact ⟨_, .tuple [.int 1], rfl, .tup g2 (.cons (.int _) .nil), by decide +kernel, rfl⟩
    · exact ⟨_, .str "other", rfl, .str _, by decide +kernel, rfl⟩
  refine i_ixLn g3 (Int.emod_nonneg _ (by decide)) hxo ?_
  clear g2 g3 hp1 hp2 hp3 n23 hc hc0 hxo hv6 hv7
  walk_at "go"
  refine ⟨N, rfl, ?_⟩
  walk_at "go"
  refine i_ite2 (fun c => ?_) (fun _ => ?_)
  · simp at c
  walk_at "go"
  refine ⟨N, rfl, ?_⟩
  walk_at "go"
  refine ⟨N, rfl, fun H4 s4 => ?_⟩
  have hx4 := s4 _ _ hx3
  have hod4 := Dp.same s4 _ _ hod
  clear hod hx3 hx1 hx s1 s3
  walk_at "go"
  refine i_ite2 (fun c => ?_) (fun _ => ?_)
  · simp at c
  walk_at "go"
  intro p5 hp5
  have s5 := fun o => same_new (o := o) (Same.refl H4) hp5
  obtain ⟨kx, hkx, skx, kkx⟩ : ∃ x : Str, ([V.str "read", .str "write"] : List V)[(v3 / 4 % 2).toNat]? = some (.str x) ∧ SeqAt.shaped (.str x) = true ∧ isKd (.str x) = true := by
    have : v3 / 4 % 2 = 0 ∨ v3 / 4 % 2 = 1 := by omega
    rcases this with e | e <;> rw [e]
    · exact ⟨_, rfl, by decide +kernel, by decide +kernel⟩
    · exact ⟨_, rfl, by decide +kernel, by decide +kernel⟩
  walk_at "go"
  refine i_ixLn (sqL upd_same) (Int.emod_nonneg _ (by decide)) hkx ?_
  have s5 := s5 (.lst [.str "read", .str "write"])
  revert s5
  generalize upd H4 p5 (.lst [.str "read", .str "write"]) = H5
  intro s5
  have hx5 := s5 _ _ hx4
  have hod5 := Dp.same s5 _ _ hod4
  clear hod4 hx4 s5 s4 hp5
  walk_at "go"
  intro p6 hp6
  have s6 := same_new (o := .lst [.int (v3 % 4), .str kx, .int (v3 / 8 % 8), .int N]) (Same.refl H5) hp6
  have na6 : a ≠ p6 := ne_fresh hp6 hx5
  have hx6 := s6 _ _ hx5
  have hod6 := Dp.same s6 _ _ hod5
  have pt6 : Pt K (upd H5 p6 (.lst [.int (v3 % 4), .str kx, .int (v3 / 8 % 8), .int N])) p6 (.int (v3 % 4)) (.str kx) (.int (v3 / 8 % 8)) (.int N) := ⟨⟨_, upd_same, .cons (.int _) (.cons (.str _) (.cons (.int _) (.cons (.int _) .nil)))⟩, rfl, fun d m => by
    have : d = .int (v3 % 4) ∨ d = .str kx ∨ d = .int (v3 / 8 % 8) ∨ d = .int N := by simpa using m
    rcases this with rfl | rfl | rfl | rfl
    · exact shI _
    · exact skx
    · exact shI _
    · exact shI _⟩
  have hy6 : (upd H5 p6 (.lst [.int (v3 % 4), .str kx, .int (v3 / 8 % 8), .int N])) p6 = some (.lst [.int (v3 % 4), .str kx, .int (v3 / 8 % 8), .int N]) := upd_same
  revert hx6 hod6 pt6 hy6
  generalize upd H5 p6 (.lst [.int (v3 % 4), .str kx, .int (v3 / 8 % 8), .int N]) = H6
  intro hx6 hod6 pt6 hy6
  clear s6 hx5 hod5
  walk_at "go"
  refine i_cut (fun σ' H7 => ∃ t k' b s, σ' = [some (.ref sc), some (.ref a), some (.int (0 + (k : Int))), some (.int N), some (.int v3), some xo, some (.ref p6), x7, x8, x9, none] ∧ H7 a = some (.lst (ms.map V.int)) ∧ Dp K H7 xo od ∧ Pt K H7 p6 t k' b s) ?_ ?_
  · walk_at "go"
    refine i_ite2 (fun c => ?_) (fun c => ?_)
    · walk_at "go"
      have j0 : 0 ≤ v3 / 3 % 4 := Int.emod_nonneg _ (by decide)
      have j1 : v3 / 3 % 4 < 4 := Int.emod_lt_of_pos _ (by decide)
      refine i_setL (j := (v3 / 3 % 4).toNat) hy6 (by unfold ixN; rw [if_pos j0, if_pos (by simpa using j1)]) ?_
      have kk : Keep H6 (upd H6 p6 (.lst (([.int (v3 % 4), .str kx, .int (v3 / 8 % 8), .int N] : List V).set (v3 / 3 % 4).toNat xo))) := (Keep.refl H6).upd fun u e => by
        rw [hy6] at e
        cases e
        rfl
      have hod' := Dp.keep kk _ _ hod6 tod
      obtain ⟨t, k', b, s, e4⟩ := four_of (ds := ([.int (v3 % 4), .str kx, .int (v3 / 8 % 8), .int N] : List PyData).set (v3 / 3 % 4).toNat od) (by rw [List.length_set]; rfl)
      refine ⟨t, k', b, s, rfl, upd_at na6 hx6, hod', ⟨_, upd_same, ?_⟩, ?_, ?_⟩
      · rw [← e4]
        exact DpAll.set _ (.cons (.int _) (.cons (.str _) (.cons (.int _) (.cons (.int _) .nil)))) hod'
      · rw [← e4]
        have : v3 / 3 % 4 = 0 ∨ v3 / 3 % 4 = 1 ∨ v3 / 3 % 4 = 2 ∨ v3 / 3 % 4 = 3 := by omega
        rcases this with e | e | e | e <;> rw [e]
        · show (tupOnly od && true) = true
          rw [tod]; rfl
        · show (true && (tupOnly od && true)) = true
          rw [tod]; rfl
        · show (true && (true && (tupOnly od && true))) = true
          rw [tod]; rfl
        · show (true && (true && (true && (tupOnly od && true)))) = true
          rw [tod]; rfl
      · rw [← e4]
        intro d m
        rcases List.mem_or_eq_of_mem_set m with m | rfl
        · exact pt6.sh d m
        · exact so
    · exact i_next ⟨_, _, _, _, rfl, hx6, hod6, pt6⟩
  clear hx6 hod6 pt6 hy6 hkx skx kkx hp6
  rintro σ' H7 ⟨t, k', b, s, rfl, hx7, hod7, pt7⟩
  walk_at "go"
  refine .inl ⟨t, k', b, s, rfl, pt7.dp, fun v8 H8 s8 hv8 => ?_⟩
  have hx8 := s8 _ _ hx7
  have hod8 := Dp.same s8 _ _ hod7
  have pt8 := pt7.same s8
  clear hx7 hod7 pt7
  walk_at "go"
  refine i_cut (fun σ' H9 => ∃ t k' b s pp v, σ' = [some (.ref sc), some (.ref a), some (.int (0 + (k : Int))), some (.int N), some (.int v3), some xo, some (.ref pp), some v, x8, x9, none] ∧ H9 a = some (.lst (ms.map V.int)) ∧ Dp K H9 xo od ∧ Pt K H9 pp t k' b s ∧ partsB t k' b s = true ∧ Dp K H9 v (descD t k' b s)) ?_ ?_
  · walk_at "go"
    refine ⟨t, k', b, s, .inl pt8.dp, fun H9 s9 => ?_⟩
    have hx9 := s9 _ _ hx8
    have hod9 := Dp.same s9 _ _ hod8
    have pt9 := pt8.same s9
    have hv9 := Dp.same s9 _ _ hv8
    walk_at "go"
    refine i_ite2 (fun c => ?_) (fun c => ?_)
    · have c : partsB t k' b s = false := by simpa using c
      unfold toldD at hv9
      rw [if_neg (by rw [c]; decide)] at hv9
      walk_at "go"
      intro p10 hp10
      have s10 := same_new (o := .lst [.str "refused", .bl true]) (Same.refl H9) hp10
      refine i_neR (Dp.same s10 _ _ hv9) (.lst (sqL upd_same) (.cons (.str _) (.cons (.bl _) .nil))) sh_ref (by decide) ?_
      have hx10 := s10 _ _ hx9
      have hod10 := Dp.same s10 _ _ hod9
      walk_at "go"
      intro p11 hp11
      have s11 := same_new (o := .lst [.int 1, .str "read", .int 2, .int N]) (Same.refl (upd H9 p10 (.lst [.str "refused", .bl true]))) hp11
      have pt11 : Pt K (upd (upd H9 p10 (.lst [.str "refused", .bl true])) p11 (.lst [.int 1, .str "read", .int 2, .int N])) p11 (.int 1) (.str "read") (.int 2) (.int N) := ⟨⟨_, upd_same, .cons (.int _) (.cons (.str _) (.cons (.int _) (.cons (.int _) .nil)))⟩, rfl, fun d m => by
        have : d = .int 1 ∨ d = .str "read" ∨ d = .int 2 ∨ d = .int N := by simpa using m
        rcases this with rfl | rfl | rfl | rfl
        · exact shI _
        · decide +kernel
        · exact shI _
        · exact shI _⟩
      have ok : partsB (.int 1) (.str "read") (.int 2) (.int N) = true := by
        have e1 : within (.int 1) 0 3 = true := by decide
        have e2 : isKd (.str "read") = true := by decide +kernel
        have e3 : within (.int 2) 0 7 = true := by decide
        have e4 : cnt (.int N) = true := decide_eq_true hN
        unfold partsB
        rw [e1, e2, e3, e4]
        rfl
      walk_at "go"
      refine ⟨.int 1, .str "read", .int 2, .int N, .int _, .str _, .int _, .int _, fun _ v H12 s12 hv12 => ?_, fun z => by rw [ok] at z; cases z⟩
      exact ⟨_, _, _, _, _, _, rfl, (Same.trans s11 s12) _ _ hx10, Dp.same (Same.trans s11 s12) _ _ hod10, pt11.same s12, ok, hv12⟩
    · have c : partsB t k' b s = true := by simpa using c
      unfold toldD at hv9
      rw [if_pos c] at hv9
      exact i_next ⟨_, _, _, _, _, _, rfl, hx9, hod9, pt9, c, hv9⟩
  clear hx8 hod8 pt8 hv8 s8 t k' b s
  rintro σ' H9 ⟨t, k', b, s, pp, v9, rfl, hx9, hod9, pt9, ok, hv9⟩
  obtain ⟨i, j, m, x, rfl, rfl, rfl, rfl, i0, i1, hkd, j0, j1, m0⟩ := parts_cnt ok
  have shx : SeqAt.shaped (.str x) = true := pt9.sh _ (by simp)
  have hv9 : Dp K H9 v9 (.tuple [.int i, .str x, .int j, .int (phs m), .int m]) := hv9
  obtain ⟨⟨ys, hy, hya⟩, _, _⟩ := id pt9
  obtain ⟨y0, y1, y2, y3, rfl, e0, e1, e2, e3⟩ := DpAll.four hya
  cases Dp.intOf e0
  cases Dp.strOf e1
  cases Dp.intOf e2
  cases Dp.intOf e3
  walk_at "go"
  refine ⟨m, rfl, fun H10 s10 => ?_⟩
  have hx10 := s10 _ _ hx9
  have hod10 := Dp.same s10 _ _ hod9
  have hv10 := Dp.same s10 _ _ hv9
  have hy10 := s10 _ _ hy
  walk_at "go"
  intro p11 hp11
  have s11 := same_new (o := .tup [.int i, .str x, .int j, .int (phs m), .int m]) (Same.refl H10) hp11
  refine i_neR (Dp.same s11 _ _ hv10) (.tup (sqT upd_same) (.cons (.int _) (.cons (.str _) (.cons (.int _) (.cons (.int _) (.cons (.int _) .nil)))))) (sh_desc shx) (by decide) ?_
  have hx11 := s11 _ _ hx10
  have hod11 := Dp.same s11 _ _ hod10
  have hv11 := Dp.same s11 _ _ hv10
  have hy11 := s11 _ _ hy10
  revert hx11 hod11 hv11 hy11
  generalize upd H10 p11 (.tup [.int i, .str x, .int j, .int (phs m), .int m]) = H11
  intro hx11 hod11 hv11 hy11
  clear s11 hp11 hx10 hod10 hv10 hy10 s10 hx9 hod9 hv9 pt9 hy hya e0 e1 e2 e3
  walk_at "go"
  intro p12 hp12
  have s12 := fun o => same_new (o := o) (Same.refl H11) hp12
  walk_at "go"
  refine ⟨a, ms, _, rfl, rfl, (s12 _) _ _ hx11, hm, by omega, fun v5 hv6 hv7 => ?_⟩
  walk_at "go"
  obtain ⟨c, hc⟩ : ∃ c : Int, ([V.int 0, .int 0, .int 4, .int 8, .int 1] : List V)[(v5 % 5).toNat]? = some (.int c) := by
    have : v5 % 5 = 0 ∨ v5 % 5 = 1 ∨ v5 % 5 = 2 ∨ v5 % 5 = 3 ∨ v5 % 5 = 4 := by omega
    rcases this with e | e | e | e | e <;> rw [e]
    · exact ⟨0, rfl⟩
    · exact ⟨0, rfl⟩
    · exact ⟨4, rfl⟩
    · exact ⟨8, rfl⟩
    · exact ⟨1, rfl⟩
  refine i_ixLn (sqL upd_same) (Int.emod_nonneg _ (by decide)) hc ?_
  have s12 := s12 (.lst [.int 0, .int 0, .int 4, .int 8, .int 1])
  revert s12
  generalize upd H11 p12 (.lst [.int 0, .int 0, .int 4, .int 8, .int 1]) = H12
  intro s12
  have hx12 := s12 _ _ hx11
  have hod12 := Dp.same s12 _ _ hod11
  have hv12 := Dp.same s12 _ _ hv11
  have hy12 := s12 _ _ hy11
  clear s12 hp12 hx11 hod11 hv11 hy11
  walk_at "go"
  generalize N + c = O
  refine ⟨a, ms, _, rfl, rfl, hx12, hm, by omega, fun w5 hw6 hw7 => ?_⟩
  walk_at "go"
  refine ⟨_, w5, od, hv12, rfl, hw6, hod12, shAll5 (shI _) shx (shI _) (shI _) (shI _), so, by simp, by simp, fun v13 d13 H13 s13 hv13 sh13 => ?_⟩
  have hx13 := s13 _ _ hx12
  have hod13 := Dp.same s13 _ _ hod12
  have hy13 := s13 _ _ hy12
  clear s13 hx12 hod12 hv12 hy12
  walk_at "go"
  refine ⟨d13, O, hv13, rfl, ?_⟩
  walk_at "go"
  refine ⟨d13, O, hv13, rfl, fun H14 s14 => ?_⟩
  walk_at "go"
  refine ⟨_, _, rfl, rfl, ?_⟩
  have hx14 := s14 _ _ hx13
  have hod14 := Dp.same s14 _ _ hod13
  have hy14 := s14 _ _ hy13
  walk_at "go"
  refine i_ite2 (fun c => ?_) (fun _ => ?_)
  · simp at c
  walk_at "go"
  intro p15 hp15
  have s15 := same_new (o := .lst [.int i, .int N]) (Same.refl H14) hp15
  walk_at "go"
  refine .inr ⟨.int i, .int N, rfl, .lst (sqL upd_same) (.cons (.int _) (.cons (.int _) .nil)), fun v16 H16 s16 hv16 => ?_⟩
  have okc : (within (.int i) 0 3 && cnt (.int N)) = true := by
    have e1 : within (.int i) 0 3 = true := by
      show (decide (0 ≤ i) && decide (i ≤ 3)) = true
      rw [decide_eq_true i0, decide_eq_true i1]
      rfl
    have e4 : cnt (.int N) = true := decide_eq_true hN
    rw [e1, e4]
    rfl
  unfold toldC at hv16
  rw [if_pos okc] at hv16
  have hv16 : Dp K H16 v16 (.tuple [.int i, .str "done", .int (phs N)]) := hv16
  have hx16 := (Same.trans s15 s16) _ _ hx14
  have hod16 := Dp.same (Same.trans s15 s16) _ _ hod14
  have hy16 := (Same.trans s15 s16) _ _ hy14
  walk_at "go"
  refine ⟨N, rfl, fun H17 s17 => ?_⟩
  walk_at "go"
  intro p18 hp18
  have s18 := same_nx s17 (o := .tup [.int i, .str "done", .int (phs N)]) hp18
  refine i_neR (Dp.same s18 _ _ hv16) (.tup (sqT upd_same) (.cons (.int _) (.cons (.str _) (.cons (.int _) .nil)))) sh_comp (by decide) ?_
  have hx18 := s18 _ _ hx16
  have hod18 := Dp.same s18 _ _ hod16
  have hv18 := Dp.same s18 _ _ hv16
  revert hx18 hod18 hv18
  generalize upd H17 p18 (.tup [.int i, .str "done", .int (phs N)]) = H18
  intro hx18 hod18 hv18
  clear s18 hp18 s17 hx16 hod16 hv16 hy16 s16 s15 hp15
  walk_at "go"
  intro p19 hp19
  have s19 := same_new (o := .lst [.int 4, .int 0]) (Same.refl H18) hp19
  walk_at "go"
  refine .inr ⟨.int 4, .int 0, rfl, .lst (sqL upd_same) (.cons (.int _) (.cons (.int _) .nil)), fun v20 H20 s20 hv20 => ?_⟩
  have hv20 : Dp K H20 v20 refD := hv20
  have s20 := Same.trans s19 s20
  walk_at "go"
  intro p21 hp21
  have s21 := same_new (o := .lst [.str "refused", .bl true]) (Same.refl H20) hp21
  refine i_neR (Dp.same s21 _ _ hv20) (.lst (sqL upd_same) (.cons (.str _) (.cons (.bl _) .nil))) sh_ref (by decide) ?_
  have s21 := Same.trans s20 s21
  have hx21 := s21 _ _ hx18
  have hod21 := Dp.same s21 _ _ hod18
  have hv21 := Dp.same s21 _ _ hv18
  revert hx21 hod21 hv21
  generalize upd H20 p21 (.lst [.str "refused", .bl true]) = H21
  intro hx21 hod21 hv21
  clear s21 hp21 hv20 s20 s19 hp19 hx18 hod18 hv18
  walk_at "go"
  intro p19 hp19
  have s19 := same_new (o := .lst [.int 0, .int (-1)]) (Same.refl H21) hp19
  walk_at "go"
  refine .inr ⟨.int 0, .int (-1), rfl, .lst (sqL upd_same) (.cons (.int _) (.cons (.int _) .nil)), fun v20 H20 s20 hv20 => ?_⟩
  have hv20 : Dp K H20 v20 refD := hv20
  have s20 := Same.trans s19 s20
  walk_at "go"
  intro p22 hp22
  have s21 := same_new (o := .lst [.str "refused", .bl true]) (Same.refl H20) hp22
  refine i_neR (Dp.same s21 _ _ hv20) (.lst (sqL upd_same) (.cons (.str _) (.cons (.bl _) .nil))) sh_ref (by decide) ?_
  have s21 := Same.trans s20 s21
  have hx22 := s21 _ _ hx21
  have hod22 := Dp.same s21 _ _ hod21
  have hv22 := Dp.same s21 _ _ hv21
  revert hx22 hod22 hv22
  generalize upd H20 p22 (.lst [.str "refused", .bl true]) = H22
  intro hx22 hod22 hv22
  walk_at "go"
  refine ⟨a, ms, _, rfl, rfl, hx22, hm, by omega, fun w6 hw8 hw9 => ?_⟩
  walk_at "go"
  refine ⟨_, w6, od, hv22, rfl, hw8, hod22, fun d hd => ?_, so, by simp, by simp, fun v23 d23 H23 s23 hv23 sh23 => ?_⟩
  · have : d = .int i ∨ d = .str "done" ∨ d = .int (phs N) := by simpa using hd
    rcases this with rfl | rfl | rfl
    · exact shI _
    · decide +kernel
    · exact shI _
  have hx23 := s23 _ _ hx22
  walk_at "go"
  refine ⟨d23, O, hv23, sh23, rfl, ?_⟩
  walk_at "go"
  refine ⟨d23, O, hv23, sh23, rfl, fun H24 s24 => ?_⟩
  walk_at "go"
  refine ⟨_, _, rfl, rfl, ?_⟩
  walk_at "go"
  refine i_ite2 (fun c => ?_) (fun _ => ?_)
  · simp at c
  exact i_next ⟨_, _, _, _, _, _, _, _, rfl, s24 _ _ hx23⟩
def top (i : Nat) : Stmt := PySem.Challenge.pw_ringbound_k04_rings.main.body.getD i (.Pass ⟨0, 0, 0, 0⟩)
abbrev s_buffer_page : Stmt := top 13
abbrev s_law_tape : Stmt := top 23
abbrev s_law_at : Stmt := top 24
abbrev s_slot_of : Stmt := top 14
abbrev s_phase_of : Stmt := top 15
abbrev s_law_phase : Stmt := top 26
abbrev s_is_within : Stmt := top 4
abbrev s_is_count : Stmt := top 16
abbrev s_are_parts : Stmt := top 17
abbrev s_descriptor : Stmt := top 18
abbrev s_completion : Stmt := top 19
abbrev s_law_told : Stmt := top 27
abbrev s_law_integer : Stmt := top 25
abbrev s_law_fit : Stmt := top 28
abbrev s_law_bent : Stmt := top 32
abbrev s_law_same : Stmt := top 31
abbrev s_is_new_descriptor : Stmt := top 20
abbrev s_law_new_descriptor : Stmt := top 29
abbrev s_is_new_completion : Stmt := top 21
abbrev s_law_new_completion : Stmt := top 30
abbrev s_law : Stmt := top 33
/-- what the top has left of the names that the walks ask -/
structure Tx (K : PySem.W.Frag) (mg : Str → Option Value) : Prop where
  b_abs : mg "abs" = none
  b_bool : mg "bool" = none
  b_int : mg "int" = none
  b_isinstance : mg "isinstance" = none
  b_len : mg "len" = none
  b_list : mg "list" = none
  b_min : mg "min" = none
  b_range : mg "range" = none
  b_str : mg "str" = none
  b_tuple : mg "tuple" = none
  c_COMPLETIONS : ∃ t, mg "COMPLETIONS" = some (.int 1 t)
  c_FIRST_BUFFER : ∃ t, mg "FIRST_BUFFER" = some (.int 2 t)
  c_MOST_BLOCK : ∃ t, mg "MOST_BLOCK" = some (.int 7 t)
  c_SLOTS : ∃ t, mg "SLOTS" = some (.int 4 t)
  c_SUBMISSIONS : ∃ t, mg "SUBMISSIONS" = some (.int 0 t)
  c_TAGS : ∃ t, mg "TAGS" = some (.int 4 t)
  e_NotValid : ExcC K (He.ga K "NotValid")
  g_KINDS : mg "KINDS" = some (.ref (He.ga K "KINDS"))
  g_NotValid : mg "NotValid" = some (.ref (He.ga K "NotValid"))
  g_RingError : mg "RingError" = some (.ref (He.ga K "RingError"))
  g__law_at : mg "_law_at" = some (.ref (He.ga K "_law_at"))
  g__law_bent : mg "_law_bent" = some (.ref (He.ga K "_law_bent"))
  g__law_fit : mg "_law_fit" = some (.ref (He.ga K "_law_fit"))
  g__law_integer : mg "_law_integer" = some (.ref (He.ga K "_law_integer"))
  g__law_new_completion : mg "_law_new_completion" = some (.ref (He.ga K "_law_new_completion"))
  g__law_new_descriptor : mg "_law_new_descriptor" = some (.ref (He.ga K "_law_new_descriptor"))
  g__law_phase : mg "_law_phase" = some (.ref (He.ga K "_law_phase"))
  g__law_same : mg "_law_same" = some (.ref (He.ga K "_law_same"))
  g__law_tape : mg "_law_tape" = some (.ref (He.ga K "_law_tape"))
  g__law_told : mg "_law_told" = some (.ref (He.ga K "_law_told"))
  g_are_parts : mg "are_parts" = some (.ref (He.ga K "are_parts"))
  g_buffer_page : mg "buffer_page" = some (.ref (He.ga K "buffer_page"))
  g_completion : mg "completion" = some (.ref (He.ga K "completion"))
  g_descriptor : mg "descriptor" = some (.ref (He.ga K "descriptor"))
  g_is_count : mg "is_count" = some (.ref (He.ga K "is_count"))
  g_is_new_completion : mg "is_new_completion" = some (.ref (He.ga K "is_new_completion"))
  g_is_new_descriptor : mg "is_new_descriptor" = some (.ref (He.ga K "is_new_descriptor"))
  g_is_within : mg "is_within" = some (.ref (He.ga K "is_within"))
  g_phase_of : mg "phase_of" = some (.ref (He.ga K "phase_of"))
  g_slot_of : mg "slot_of" = some (.ref (He.ga K "slot_of"))
  x_NotValid : XOk K mg "NotValid"
section
variable {P : Program} {w : World} {K : PySem.W.Frag} {mg : Str → Option Value} {base : Heap}
theorem sc_buffer_page : FnScope N_buffer_page ["tag"] (defScope s_buffer_page) := ⟨rfl, rfl, rfl, by decide +kernel, rfl, by decide +kernel, by decide +kernel⟩
theorem ok_buffer_page (T : Tx K mg) (hF : ∃ fd, FunD K "buffer_page" "buffer_page" (defArgs s_buffer_page) (defBody s_buffer_page) (defScope s_buffer_page) [] [] (He.fAd K ("buffer_page", none)) fd)  : Okd P w K mg base 1 (He.fAd K ("buffer_page", none)) ["tag"] (sp_buffer_page K) := by
  refine Okd.of hF sc_buffer_page (fun vs H Q E h => match vs, h with | [_], _ => rfl) (fun _ _ _ _ _ _ us hl => match us, hl with | [_], _ => rfl) (t := t_buffer_page K) (fun cdv A outer s H E hr => ?_) (fun vs H Q E h => match vs, h with | [a0], h => pure_buffer_page h)
  have nd := sc_buffer_page.nd
  exact (pss_one (ps_ret (pe_op op_addA (pe_gint rfl T.c_FIRST_BUFFER) (pv 0))))
theorem sc_law_tape : FnScope N_law_tape ["_law_script"] (defScope s_law_tape) := ⟨rfl, rfl, rfl, by decide +kernel, rfl, by decide +kernel, by decide +kernel⟩
theorem ok_law_tape (T : Tx K mg) (hF : ∃ fd, FunD K "_law_tape" "_law_tape" (defArgs s_law_tape) (defBody s_law_tape) (defScope s_law_tape) [] [] (He.fAd K ("_law_tape", none)) fd)  : Okd P w K mg base 1 (He.fAd K ("_law_tape", none)) ["_law_script"] (sp_law_tape K) := by
  refine Okd.of hF sc_law_tape (fun vs H Q E h => match vs, h with | [_], _ => rfl) (fun _ _ _ _ _ _ us hl => match us, hl with | [_], _ => rfl) (t := t_law_tape K) (fun cdv A outer s H E hr => ?_) (fun vs H Q E h => match vs, h with | [a0], h => pure_law_tape h)
  have nd := sc_law_tape.nd
  exact (pss_cons (ps_set (i := 1) nd rfl (Or.inl rfl) (pe_lst pa_nil))
  (pss_cons (ps_for (passes_of rfl) rfl (pi_range1 rfl T.b_range (pa_cons (pe_callB cr_len (by rfl) T.b_len (by decide +kernel) (pa_cons (pv 0) pa_nil)) pa_nil)) (pg_name (i := 2) nd rfl (Or.inl rfl)) (pss_cons (ps_set (i := 3) nd rfl (Or.inl rfl) (pe_callB cr_abs (by rfl) T.b_abs (by decide +kernel) (pa_cons (pe_callTy cr_int (by rfl) T.b_int (by decide +kernel) (pa_cons (pe_ix ix_seq (pv 0) (pv 2) (fun _ _ => rfl)) pa_nil)) pa_nil)))
  (pss_one (ps_if (pt_cmpR op_geI (pv 3) (pe_op op_powI pe_int pe_int) (nomark _)) (pss_one (ps_for (passes_of rfl) rfl (pi_range1 rfl T.b_range (pa_cons pe_int pa_nil)) (pg_name (i := 4) nd rfl (Or.inl rfl)) (pss_one (ps_if (pt_cmpR op_gtI (pv 3) pe_int (nomark _)) (pss_cons (ps_expr (pe_bm PySem.F.plainAttrs_list PySem.F.slot_list_append PySem.F.type_list_append mt_append (pv 1) (pa_cons (pe_op op_modI (pv 3) pe_int) pa_nil)))
  (pss_one (ps_set (i := 3) nd rfl (Or.inl rfl) (pe_op op_divN (pv 3) pe_int)))) pss_nil)))) (pss_one (ps_for (passes_of rfl) rfl (pi_range1 rfl T.b_range (pa_cons pe_int pa_nil)) (pg_name (i := 4) nd rfl (Or.inl rfl)) (pss_cons (ps_set (i := 3) nd rfl (Or.inl rfl) (pe_op op_modI (pe_op op_addA (pe_op op_addA (pe_op op_mulA (pv 3) pe_int) (pe_op op_mulA pe_int (pe_op op_addA (pv 2) pe_int))) (pe_op op_mulA pe_int (pv 4))) pe_int))
  (pss_cons (ps_set (i := 3) nd rfl (Or.inl rfl) (pe_op op_modI (pe_op op_mulA (pv 3) pe_int) pe_int))
  (pss_one (ps_expr (pe_bm PySem.F.plainAttrs_list PySem.F.slot_list_append PySem.F.type_list_append mt_append (pv 1) (pa_cons (pe_op op_modI (pe_op op_divN (pv 3) pe_int) pe_int) pa_nil))))))))))))
  (pss_one (ps_ret (pv 1)))))
theorem sc_law_at : FnScope N_law_at ["_law_tape_here", "_law_k"] (defScope s_law_at) := ⟨rfl, rfl, rfl, by decide +kernel, rfl, by decide +kernel, by decide +kernel⟩
theorem ok_law_at (T : Tx K mg) (hF : ∃ fd, FunD K "_law_at" "_law_at" (defArgs s_law_at) (defBody s_law_at) (defScope s_law_at) [] [] (He.fAd K ("_law_at", none)) fd)  : Okd P w K mg base 1 (He.fAd K ("_law_at", none)) ["_law_tape_here", "_law_k"] (sp_law_at K) := by
  refine Okd.of hF sc_law_at (fun vs H Q E h => match vs, h with | [_, _], _ => rfl) (fun _ _ _ _ _ _ us hl => match us, hl with | [_, _], _ => rfl) (t := t_law_at K) (fun cdv A outer s H E hr => ?_) (fun vs H Q E h => match vs, h with | [a0, a1], h => pure_law_at h)
  have nd := sc_law_at.nd
  exact (pss_cons (ps_if (pt_cmpR op_ltI (pv 1) (pe_callB cr_len (by rfl) T.b_len (by decide +kernel) (pa_cons (pv 0) pa_nil)) (nomark _)) (pss_one (ps_ret (pe_ix ix_seq (pv 0) (pv 1) (fun _ _ => rfl)))) pss_nil)
  (pss_one (ps_ret pe_int)))
theorem sc_slot_of : FnScope N_slot_of ["number"] (defScope s_slot_of) := ⟨rfl, rfl, rfl, by decide +kernel, rfl, by decide +kernel, by decide +kernel⟩
theorem ok_slot_of (T : Tx K mg) (hF : ∃ fd, FunD K "slot_of" "slot_of" (defArgs s_slot_of) (defBody s_slot_of) (defScope s_slot_of) [] [] (He.fAd K ("slot_of", none)) fd)  : Okd P w K mg base 1 (He.fAd K ("slot_of", none)) ["number"] (sp_slot_of K) := by
  refine Okd.of hF sc_slot_of (fun vs H Q E h => match vs, h with | [_], _ => rfl) (fun _ _ _ _ _ _ us hl => match us, hl with | [_], _ => rfl) (t := t_slot_of K) (fun cdv A outer s H E hr => ?_) (fun vs H Q E h => match vs, h with | [a0], h => pure_slot_of h)
  have nd := sc_slot_of.nd
  exact (pss_one (ps_ret (pe_op op_modI (pv 0) (pe_gint rfl T.c_SLOTS))))
theorem sc_phase_of : FnScope N_phase_of ["number"] (defScope s_phase_of) := ⟨rfl, rfl, rfl, by decide +kernel, rfl, by decide +kernel, by decide +kernel⟩
theorem ok_phase_of (T : Tx K mg) (hF : ∃ fd, FunD K "phase_of" "phase_of" (defArgs s_phase_of) (defBody s_phase_of) (defScope s_phase_of) [] [] (He.fAd K ("phase_of", none)) fd)  : Okd P w K mg base 1 (He.fAd K ("phase_of", none)) ["number"] (sp_phase_of K) := by
  refine Okd.of hF sc_phase_of (fun vs H Q E h => match vs, h with | [_], _ => rfl) (fun _ _ _ _ _ _ us hl => match us, hl with | [_], _ => rfl) (t := t_phase_of K) (fun cdv A outer s H E hr => ?_) (fun vs H Q E h => match vs, h with | [a0], h => pure_phase_of h)
  have nd := sc_phase_of.nd
  exact (pss_one (ps_ret (pe_op op_subN pe_int (pe_op op_modI (pe_op op_divN (pv 0) (pe_gint rfl T.c_SLOTS)) pe_int))))
theorem sc_law_phase : FnScope N_law_phase ["_law_number"] (defScope s_law_phase) := ⟨rfl, rfl, rfl, by decide +kernel, rfl, by decide +kernel, by decide +kernel⟩
theorem ok_law_phase (T : Tx K mg) (hF : ∃ fd, FunD K "_law_phase" "_law_phase" (defArgs s_law_phase) (defBody s_law_phase) (defScope s_law_phase) [] [] (He.fAd K ("_law_phase", none)) fd)  : Okd P w K mg base 1 (He.fAd K ("_law_phase", none)) ["_law_number"] (sp_law_phase K) := by
  refine Okd.of hF sc_law_phase (fun vs H Q E h => match vs, h with | [_], _ => rfl) (fun _ _ _ _ _ _ us hl => match us, hl with | [_], _ => rfl) (t := t_law_phase K) (fun cdv A outer s H E hr => ?_) (fun vs H Q E h => match vs, h with | [a0], h => pure_law_phase h)
  have nd := sc_law_phase.nd
  exact (pss_one (ps_ret (pe_ix ix_seq (pe_lst (pa_cons pe_int (pa_cons pe_int pa_nil))) (pe_op op_modI (pe_op op_divN (pv 0) pe_int) pe_int) (fun _ _ => rfl))))
theorem sc_is_within : FnScope N_is_within ["value", "low", "high"] (defScope s_is_within) := ⟨rfl, rfl, rfl, by decide +kernel, rfl, by decide +kernel, by decide +kernel⟩
theorem ok_is_within (T : Tx K mg) (hF : ∃ fd, FunD K "is_within" "is_within" (defArgs s_is_within) (defBody s_is_within) (defScope s_is_within) [] [] (He.fAd K ("is_within", none)) fd)  : Okd P w K mg base 1 (He.fAd K ("is_within", none)) ["value", "low", "high"] (sp_is_within K) := by
  refine Okd.of hF sc_is_within (fun vs H Q E h => match vs, h with | [_, _, _], _ => rfl) (fun _ _ _ _ _ _ us hl => match us, hl with | [_, _, _], _ => rfl) (t := t_is_within K) (fun cdv A outer s H E hr => ?_) (fun vs H Q E h => match vs, h with | [a0, a1, a2], h => pure_is_within h)
  have nd := sc_is_within.nd
  exact (pss_one (ps_ret (pe_and (pe_callB cr_isi (by rfl) T.b_isinstance (by decide +kernel) (pa_cons (pv 0) (pa_cons (pe_bltn (v := .ty "int") (by rfl) T.b_int (by decide +kernel) rfl) pa_nil))) (pe_and (pe_not (pe_callB cr_isi (by rfl) T.b_isinstance (by decide +kernel) (pa_cons (pv 0) (pa_cons (pe_bltn (v := .ty "bool") (by rfl) T.b_bool (by decide +kernel) rfl) pa_nil)))) (pe_one (pe_chain op_leI op_leI (pv 1) (pv 0) (pv 2)))))))
theorem sc_is_count : FnScope N_is_count ["value"] (defScope s_is_count) := ⟨rfl, rfl, rfl, by decide +kernel, rfl, by decide +kernel, by decide +kernel⟩
theorem ok_is_count (T : Tx K mg) (hF : ∃ fd, FunD K "is_count" "is_count" (defArgs s_is_count) (defBody s_is_count) (defScope s_is_count) [] [] (He.fAd K ("is_count", none)) fd)  : Okd P w K mg base 1 (He.fAd K ("is_count", none)) ["value"] (sp_is_count K) := by
  refine Okd.of hF sc_is_count (fun vs H Q E h => match vs, h with | [_], _ => rfl) (fun _ _ _ _ _ _ us hl => match us, hl with | [_], _ => rfl) (t := t_is_count K) (fun cdv A outer s H E hr => ?_) (fun vs H Q E h => match vs, h with | [a0], h => pure_is_count h)
  have nd := sc_is_count.nd
  exact (pss_one (ps_ret (pe_and (pe_callB cr_isi (by rfl) T.b_isinstance (by decide +kernel) (pa_cons (pv 0) (pa_cons (pe_bltn (v := .ty "int") (by rfl) T.b_int (by decide +kernel) rfl) pa_nil))) (pe_and (pe_not (pe_callB cr_isi (by rfl) T.b_isinstance (by decide +kernel) (pa_cons (pv 0) (pa_cons (pe_bltn (v := .ty "bool") (by rfl) T.b_bool (by decide +kernel) rfl) pa_nil)))) (pe_one (pe_cmpR op_geI (pv 0) pe_int (nomark _)))))))
theorem sc_are_parts : FnScope N_are_parts ["tag", "kind", "block", "sequence"] (defScope s_are_parts) := ⟨rfl, rfl, rfl, by decide +kernel, rfl, by decide +kernel, by decide +kernel⟩
theorem ok_are_parts (T : Tx K mg) (Z : Zx K) (hF : ∃ fd, FunD K "are_parts" "are_parts" (defArgs s_are_parts) (defBody s_are_parts) (defScope s_are_parts) [] [] (He.fAd K ("are_parts", none)) fd) (h_is_within : Okd P w K mg base 1 (He.fAd K ("is_within", none)) ["value", "low", "high"] (sp_is_within K)) (h_is_count : Okd P w K mg base 1 (He.fAd K ("is_count", none)) ["value"] (sp_is_count K)) : Okd P w K mg base 2 (He.fAd K ("are_parts", none)) ["tag", "kind", "block", "sequence"] (sp_are_parts K) := by
  obtain ⟨fd_is_within, G_is_within, b_is_within, kp_is_within, _⟩ := h_is_within
  obtain ⟨fd_is_count, G_is_count, b_is_count, kp_is_count, _⟩ := h_is_count
  refine Okd.of hF sc_are_parts (fun vs H Q E h => match vs, h with | [_, _, _, _], _ => rfl) (fun _ _ _ _ _ _ us hl => match us, hl with | [_, _, _, _], _ => rfl) (t := t_are_parts K) (fun cdv A outer s H E hr => ?_) (fun vs H Q E h => match vs, h with | [a0, a1, a2, a3], h => pure_are_parts Z h)
  have nd := sc_are_parts.nd
  exact (pss_cons (ps_if (PW.pt (pw_or (pt_not (pt_tru (pe_call G_is_within (hr.mono (by decide)) rfl T.g_is_within kp_is_within b_is_within .nil passL (pa_cons (pv 0) (pa_cons pe_int (pa_cons (pe_op op_subN (pe_gint rfl T.c_TAGS) pe_int) pa_nil)))))) (pw_or (pt_not (pt_tru (pe_callB cr_isi (by rfl) T.b_isinstance (by decide +kernel) (pa_cons (pv 1) (pa_cons (pe_bltn (v := .ty "str") (by rfl) T.b_str (by decide +kernel) rfl) pa_nil))))) (pw_or1 (pt_cmpR (op_niA (hu65 hr)) (pv 1) (pe_glob rfl T.g_KINDS rfl) rfl))))) (pss_one (ps_ret pe_bl)) pss_nil)
  (pss_one (ps_ret (pe_and (pe_call G_is_within (hr.mono (by decide)) rfl T.g_is_within kp_is_within b_is_within .nil passL (pa_cons (pv 2) (pa_cons pe_int (pa_cons (pe_gint rfl T.c_MOST_BLOCK) pa_nil)))) (pe_one (pe_call G_is_count (hr.mono (by decide)) rfl T.g_is_count kp_is_count b_is_count .nil passL (pa_cons (pv 3) pa_nil)))))))
theorem sc_descriptor : FnScope N_descriptor ["tag", "kind", "block", "sequence"] (defScope s_descriptor) := ⟨rfl, rfl, rfl, by decide +kernel, rfl, by decide +kernel, by decide +kernel⟩
theorem ok_descriptor (T : Tx K mg) (hF : ∃ fd, FunD K "descriptor" "descriptor" (defArgs s_descriptor) (defBody s_descriptor) (defScope s_descriptor) [] [] (He.fAd K ("descriptor", none)) fd) (h_are_parts : Okd P w K mg base 2 (He.fAd K ("are_parts", none)) ["tag", "kind", "block", "sequence"] (sp_are_parts K)) (h_phase_of : Okd P w K mg base 1 (He.fAd K ("phase_of", none)) ["number"] (sp_phase_of K)) : Okd P w K mg base 3 (He.fAd K ("descriptor", none)) ["tag", "kind", "block", "sequence"] (sp_descriptor K) := by
  obtain ⟨fd_are_parts, G_are_parts, b_are_parts, kp_are_parts, _⟩ := h_are_parts
  obtain ⟨fd_phase_of, G_phase_of, b_phase_of, kp_phase_of, _⟩ := h_phase_of
  refine Okd.of hF sc_descriptor (fun vs H Q E h => match vs, h with | [_, _, _, _], _ => rfl) (fun _ _ _ _ _ _ us hl => match us, hl with | [_, _, _, _], _ => rfl) (t := t_descriptor K) (fun cdv A outer s H E hr => ?_) (fun vs H Q E h => match vs, h with | [a0, a1, a2, a3], h => pure_descriptor h)
  have nd := sc_descriptor.nd
  exact (pss_cons (ps_if (pt_not (pt_tru (pe_call G_are_parts (hr.mono (by decide)) rfl T.g_are_parts kp_are_parts b_are_parts .nil passL (pa_cons (pv 0) (pa_cons (pv 1) (pa_cons (pv 2) (pa_cons (pv 3) pa_nil))))))) (pss_one (ps_raise0 T.x_NotValid rfl (takes_of rfl rfl rfl rfl) rfl)) pss_nil)
  (pss_one (ps_ret (pe_tup (pa_cons (pv 0) (pa_cons (pv 1) (pa_cons (pv 2) (pa_cons (pe_call G_phase_of (hr.mono (by decide)) rfl T.g_phase_of kp_phase_of b_phase_of .nil passL (pa_cons (pv 3) pa_nil)) (pa_cons (pv 3) pa_nil)))))))))
theorem sc_completion : FnScope N_completion ["tag", "number"] (defScope s_completion) := ⟨rfl, rfl, rfl, by decide +kernel, rfl, by decide +kernel, by decide +kernel⟩
theorem ok_completion (T : Tx K mg) (hF : ∃ fd, FunD K "completion" "completion" (defArgs s_completion) (defBody s_completion) (defScope s_completion) [] [] (He.fAd K ("completion", none)) fd) (h_is_within : Okd P w K mg base 1 (He.fAd K ("is_within", none)) ["value", "low", "high"] (sp_is_within K)) (h_is_count : Okd P w K mg base 1 (He.fAd K ("is_count", none)) ["value"] (sp_is_count K)) (h_phase_of : Okd P w K mg base 1 (He.fAd K ("phase_of", none)) ["number"] (sp_phase_of K)) : Okd P w K mg base 2 (He.fAd K ("completion", none)) ["tag", "number"] (sp_completion K) := by
  obtain ⟨fd_is_within, G_is_within, b_is_within, kp_is_within, _⟩ := h_is_within
  obtain ⟨fd_is_count, G_is_count, b_is_count, kp_is_count, _⟩ := h_is_count
  obtain ⟨fd_phase_of, G_phase_of, b_phase_of, kp_phase_of, _⟩ := h_phase_of
  refine Okd.of hF sc_completion (fun vs H Q E h => match vs, h with | [_, _], _ => rfl) (fun _ _ _ _ _ _ us hl => match us, hl with | [_, _], _ => rfl) (t := t_completion K) (fun cdv A outer s H E hr => ?_) (fun vs H Q E h => match vs, h with | [a0, a1], h => pure_completion h)
  have nd := sc_completion.nd
  exact (pss_cons (ps_if (PW.pt (pw_or (pt_not (pt_tru (pe_call G_is_within (hr.mono (by decide)) rfl T.g_is_within kp_is_within b_is_within .nil passL (pa_cons (pv 0) (pa_cons pe_int (pa_cons (pe_op op_subN (pe_gint rfl T.c_TAGS) pe_int) pa_nil)))))) (pw_or1 (pt_not (pt_tru (pe_call G_is_count (hr.mono (by decide)) rfl T.g_is_count kp_is_count b_is_count .nil passL (pa_cons (pv 1) pa_nil))))))) (pss_one (ps_raise0 T.x_NotValid rfl (takes_of rfl rfl rfl rfl) rfl)) pss_nil)
  (pss_one (ps_ret (pe_tup (pa_cons (pv 0) (pa_cons pe_str (pa_cons (pe_call G_phase_of (hr.mono (by decide)) rfl T.g_phase_of kp_phase_of b_phase_of .nil passL (pa_cons (pv 1) pa_nil)) pa_nil)))))))
theorem sc_law_told : FnScope N_law_told ["_law_act", "_law_parts"] (defScope s_law_told) := ⟨rfl, rfl, rfl, by decide +kernel, rfl, by decide +kernel, by decide +kernel⟩
theorem ok_law_told (T : Tx K mg) (Z : Zx K) (hF : ∃ fd, FunD K "_law_told" "_law_told" (defArgs s_law_told) (defBody s_law_told) (defScope s_law_told) [] [] (He.fAd K ("_law_told", none)) fd) (h_descriptor : Okd P w K mg base 3 (He.fAd K ("descriptor", none)) ["tag", "kind", "block", "sequence"] (sp_descriptor K)) (h_completion : Okd P w K mg base 2 (He.fAd K ("completion", none)) ["tag", "number"] (sp_completion K)) : Okd P w K mg base 4 (He.fAd K ("_law_told", none)) ["_law_act", "_law_parts"] (sp_law_told K) := by
  obtain ⟨fd_descriptor, G_descriptor, b_descriptor, kp_descriptor, _⟩ := h_descriptor
  obtain ⟨fd_completion, G_completion, b_completion, kp_completion, _⟩ := h_completion
  refine Okd.of hF sc_law_told (fun vs H Q E h => match vs, h with | [_, _], _ => rfl) (fun _ _ _ _ _ _ us hl => match us, hl with | [_, _], _ => rfl) (t := t_law_told K) (fun cdv A outer s H E hr => ?_) (fun vs H Q E h => match vs, h with | [a0, a1], h => pure_law_told Z h)
  have nd := sc_law_told.nd
  exact (pss_one (ps_tryAs (i := 2) rfl rfl nd rfl rfl rfl rfl T.g_RingError takes0 (fun W pn xe tkW _ => (pss_cons (ps_if (pt_cmpR (op_eqD hr.units) (pv 0) pe_str (nomark _)) (pss_one (ps_ret (pe_callS G_descriptor (hr.mono (by decide)) rfl T.g_descriptor kp_descriptor b_descriptor (fun σ => passAt tkW σ) (pa_cons (pe_ix ix_seq (pv 1) pe_int (fun _ _ => rfl)) (pa_cons (pe_ix ix_seq (pv 1) pe_int (fun _ _ => rfl)) (pa_cons (pe_ix ix_seq (pv 1) pe_int (fun _ _ => rfl)) (pa_cons (pe_ix ix_seq (pv 1) pe_int (fun _ _ => rfl)) pa_nil))))))) pss_nil)
  (pss_one (ps_ret (pe_callS G_completion (hr.mono (by decide)) rfl T.g_completion kp_completion b_completion (fun σ => passAt tkW σ) (pa_cons (pe_ix ix_seq (pv 1) pe_int (fun _ _ => rfl)) (pa_cons (pe_ix ix_seq (pv 1) pe_int (fun _ _ => rfl)) pa_nil))))))) (fun a oe cls d pn hz hf => pss_kn fun e1 e2 => by
    subst e1 e2
    exact (pss_one (ps_ret (pe_lst (pa_cons pe_str (pa_cons (pe_callB (call_isE T.e_NotValid hz hf) (by rfl) T.b_isinstance (by decide +kernel) (pa_cons (pv 2) (pa_cons (pe_glob rfl T.g_NotValid rfl) pa_nil))) pa_nil))))))))
theorem sc_law_integer : FnScope N_law_integer ["_law_value", "_law_low", "_law_high"] (defScope s_law_integer) := ⟨rfl, rfl, rfl, by decide +kernel, rfl, by decide +kernel, by decide +kernel⟩
theorem ok_law_integer (T : Tx K mg) (hF : ∃ fd, FunD K "_law_integer" "_law_integer" (defArgs s_law_integer) (defBody s_law_integer) (defScope s_law_integer) [] [] (He.fAd K ("_law_integer", none)) fd)  : Okd P w K mg base 1 (He.fAd K ("_law_integer", none)) ["_law_value", "_law_low", "_law_high"] (sp_law_integer K) := by
  refine Okd.of hF sc_law_integer (fun vs H Q E h => match vs, h with | [_, _, _], _ => rfl) (fun _ _ _ _ _ _ us hl => match us, hl with | [_, _, _], _ => rfl) (t := t_law_integer K) (fun cdv A outer s H E hr => ?_) (fun vs H Q E h => match vs, h with | [a0, a1, a2], h => pure_law_integer h)
  have nd := sc_law_integer.nd
  exact (pss_one (ps_ret (pe_and (pe_callB cr_isi (by rfl) T.b_isinstance (by decide +kernel) (pa_cons (pv 0) (pa_cons (pe_bltn (v := .ty "int") (by rfl) T.b_int (by decide +kernel) rfl) pa_nil))) (pe_and (pe_not (pe_callB cr_isi (by rfl) T.b_isinstance (by decide +kernel) (pa_cons (pv 0) (pa_cons (pe_bltn (v := .ty "bool") (by rfl) T.b_bool (by decide +kernel) rfl) pa_nil)))) (pe_and (pe_cmpR op_geI (pv 0) (pv 1) (nomark _)) (pe_one (pe_or (pe_cmpR op_isN1 (pv 2) pe_non (nomark _)) (pe_one (pe_cmpR op_leI (pv 0) (pv 2) (nomark _))))))))))
theorem sc_law_fit : FnScope N_law_fit ["_law_parts"] (defScope s_law_fit) := ⟨rfl, rfl, rfl, by decide +kernel, rfl, by decide +kernel, by decide +kernel⟩
theorem ok_law_fit (T : Tx K mg) (hF : ∃ fd, FunD K "_law_fit" "_law_fit" (defArgs s_law_fit) (defBody s_law_fit) (defScope s_law_fit) [] [] (He.fAd K ("_law_fit", none)) fd) (h_law_integer : Okd P w K mg base 1 (He.fAd K ("_law_integer", none)) ["_law_value", "_law_low", "_law_high"] (sp_law_integer K)) : Okd P w K mg base 2 (He.fAd K ("_law_fit", none)) ["_law_parts"] (sp_law_fit K) := by
  obtain ⟨fd_law_integer, G_law_integer, b_law_integer, kp_law_integer, _⟩ := h_law_integer
  refine Okd.of hF sc_law_fit (fun vs H Q E h => match vs, h with | [_], _ => rfl) (fun _ _ _ _ _ _ us hl => match us, hl with | [_], _ => rfl) (t := t_law_fit K) (fun cdv A outer s H E hr => ?_) (fun vs H Q E h => match vs, h with | [a0], h => pure_law_fit h)
  have nd := sc_law_fit.nd
  exact (pss_cons (ps_set (i := 1) nd rfl (Or.inl rfl) (pe_and (pe_callB cr_isi (by rfl) T.b_isinstance (by decide +kernel) (pa_cons (pe_ix ix_seq (pv 0) pe_int (fun _ _ => rfl)) (pa_cons (pe_bltn (v := .ty "str") (by rfl) T.b_str (by decide +kernel) rfl) pa_nil))) (pe_one (pe_cmpR (op_inA (hu65 hr)) (pe_ix ix_seq (pv 0) pe_int (fun _ _ => rfl)) (pe_tup (pa_cons pe_str (pa_cons pe_str pa_nil))) rfl))))
  (pss_one (ps_ret (pe_and (pv 1) (pe_and (pe_call G_law_integer (hr.mono (by decide)) rfl T.g__law_integer kp_law_integer b_law_integer .nil passL (pa_cons (pe_ix ix_seq (pv 0) pe_int (fun _ _ => rfl)) (pa_cons pe_int (pa_cons pe_int pa_nil)))) (pe_and (pe_call G_law_integer (hr.mono (by decide)) rfl T.g__law_integer kp_law_integer b_law_integer .nil passL (pa_cons (pe_ix ix_seq (pv 0) pe_int (fun _ _ => rfl)) (pa_cons pe_int (pa_cons pe_int pa_nil)))) (pe_one (pe_call G_law_integer (hr.mono (by decide)) rfl T.g__law_integer kp_law_integer b_law_integer .nil passL (pa_cons (pe_ix ix_seq (pv 0) pe_int (fun _ _ => rfl)) (pa_cons pe_int (pa_cons pe_non pa_nil)))))))))))
theorem sc_law_bent : FnScope N_law_bent ["_law_value", "_law_number", "_law_odd"] (defScope s_law_bent) := ⟨rfl, rfl, rfl, by decide +kernel, rfl, by decide +kernel, by decide +kernel⟩
theorem ok_law_bent (T : Tx K mg) (hF : ∃ fd, FunD K "_law_bent" "_law_bent" (defArgs s_law_bent) (defBody s_law_bent) (defScope s_law_bent) [] [] (He.fAd K ("_law_bent", none)) fd)  : Okd P w K mg base 1 (He.fAd K ("_law_bent", none)) ["_law_value", "_law_number", "_law_odd"] (sp_law_bent K) := by
  refine Okd.of hF sc_law_bent (fun vs H Q E h => match vs, h with | [_, _, _], _ => rfl) (fun _ _ _ _ _ _ us hl => match us, hl with | [_, _, _], _ => rfl) (t := t_law_bent K) (fun cdv A outer s H E hr => ?_) (fun vs H Q E h => match vs, h with | [a0, a1, a2], h => pure_law_bent h)
  have nd := sc_law_bent.nd
  exact (pss_cons (ps_set (i := 3) nd rfl (Or.inl rfl) (pe_op op_modI (pv 1) pe_int))
  (pss_cons (ps_if (pt_cmpR op_ltI (pv 3) pe_int (nomark _)) (pss_one (ps_ret (pv 0))) pss_nil)
  (pss_cons (ps_if (pt_cmpR (op_eqD hr.units) (pv 3) pe_int (nomark _)) (pss_one (ps_ret (pe_op op_addA (pv 0) (pe_tup (pa_cons (pv 2) pa_nil))))) pss_nil)
  (pss_cons (ps_if (pt_cmpR (op_eqD hr.units) (pv 3) pe_int (nomark _)) (pss_one (ps_ret (pe_slice sl_A (pv 0) po_none (po_some (pe_un un_negI pe_int))))) pss_nil)
  (pss_cons (ps_if (pt_cmpR (op_eqD hr.units) (pv 3) pe_int (nomark _)) (pss_one (ps_ret (pe_callTy cr_list (by rfl) T.b_list (by decide +kernel) (pa_cons (pv 0) pa_nil)))) pss_nil)
  (pss_cons (ps_set (i := 4) nd rfl (Or.inl rfl) (pe_op op_modI (pe_op op_divN (pv 1) pe_int) (pe_callB cr_len (by rfl) T.b_len (by decide +kernel) (pa_cons (pv 0) pa_nil))))
  (pss_one (ps_ret (pe_op op_addA (pe_op op_addA (pe_slice sl_A (pv 0) po_none (po_some (pv 4))) (pe_tup (pa_cons (pv 2) pa_nil))) (pe_slice sl_A (pv 0) (po_some (pe_op op_addA (pv 4) pe_int)) po_none))))))))))
theorem sc_law_same : FnScope N_law_same ["_law_told_here", "_law_due"] (defScope s_law_same) := ⟨rfl, rfl, rfl, by decide +kernel, rfl, by decide +kernel, by decide +kernel⟩
theorem ok_law_same (T : Tx K mg) (hF : ∃ fd, FunD K "_law_same" "_law_same" (defArgs s_law_same) (defBody s_law_same) (defScope s_law_same) [] [] (He.fAd K ("_law_same", none)) fd)  : Okd P w K mg base 1 (He.fAd K ("_law_same", none)) ["_law_told_here", "_law_due"] (sp_law_same K) := by
  refine Okd.of hF sc_law_same (fun vs H Q E h => match vs, h with | [_, _], _ => rfl) (fun _ _ _ _ _ _ us hl => match us, hl with | [_, _], _ => rfl) (t := t_law_same K) (fun cdv A outer s H E hr => ?_) (fun vs H Q E h => match vs, h with | [a0, a1], h => pure_law_same h)
  have nd := sc_law_same.nd
  exact (pss_one (ps_ret (pe_and (pe_callB cr_isi (by rfl) T.b_isinstance (by decide +kernel) (pa_cons (pv 0) (pa_cons (pe_bltn (v := .ty "bool") (by rfl) T.b_bool (by decide +kernel) rfl) pa_nil))) (pe_one (pe_cmpR (op_eqD hr.units) (pv 0) (pv 1) (nomark _))))))
theorem sc_is_new_descriptor : FnScope N_is_new_descriptor ["value", "number"] (defScope s_is_new_descriptor) := ⟨rfl, rfl, rfl, by decide +kernel, rfl, by decide +kernel, by decide +kernel⟩
theorem ok_is_new_descriptor (T : Tx K mg) (hF : ∃ fd, FunD K "is_new_descriptor" "is_new_descriptor" (defArgs s_is_new_descriptor) (defBody s_is_new_descriptor) (defScope s_is_new_descriptor) [] [] (He.fAd K ("is_new_descriptor", none)) fd) (h_are_parts : Okd P w K mg base 2 (He.fAd K ("are_parts", none)) ["tag", "kind", "block", "sequence"] (sp_are_parts K)) (h_is_within : Okd P w K mg base 1 (He.fAd K ("is_within", none)) ["value", "low", "high"] (sp_is_within K)) (h_phase_of : Okd P w K mg base 1 (He.fAd K ("phase_of", none)) ["number"] (sp_phase_of K)) : Okd P w K mg base 3 (He.fAd K ("is_new_descriptor", none)) ["value", "number"] (sp_is_new_descriptor K) := by
  obtain ⟨fd_are_parts, G_are_parts, b_are_parts, kp_are_parts, _⟩ := h_are_parts
  obtain ⟨fd_is_within, G_is_within, b_is_within, kp_is_within, _⟩ := h_is_within
  obtain ⟨fd_phase_of, G_phase_of, b_phase_of, kp_phase_of, _⟩ := h_phase_of
  refine Okd.of hF sc_is_new_descriptor (fun vs H Q E h => match vs, h with | [_, _], _ => rfl) (fun _ _ _ _ _ _ us hl => match us, hl with | [_, _], _ => rfl) (t := t_is_new_descriptor K) (fun cdv A outer s H E hr => ?_) (fun vs H Q E h => match vs, h with | [a0, a1], h => pure_is_new_descriptor h)
  have nd := sc_is_new_descriptor.nd
  exact (pss_cons (ps_if (PW.pt (pw_or (pt_not (pt_tru (pe_callB cr_isi (by rfl) T.b_isinstance (by decide +kernel) (pa_cons (pv 0) (pa_cons (pe_bltn (v := .ty "tuple") (by rfl) T.b_tuple (by decide +kernel) rfl) pa_nil))))) (pw_or1 (pt_cmpR (op_neD hr.units) (pe_callB cr_len (by rfl) T.b_len (by decide +kernel) (pa_cons (pv 0) pa_nil)) pe_int (nomark _))))) (pss_one (ps_ret pe_bl)) pss_nil)
  (pss_cons (ps_asg (pv 0) (pg_tup rfl (pgs_cons (pg_name (i := 2) nd rfl (Or.inl rfl)) (pgs_cons (pg_name (i := 3) nd rfl (Or.inl rfl)) (pgs_cons (pg_name (i := 4) nd rfl (Or.inl rfl)) (pgs_cons (pg_name (i := 5) nd rfl (Or.inl rfl)) (pgs_cons (pg_name (i := 6) nd rfl (Or.inl rfl)) pgs_nil)))))))
  (pss_cons (ps_if (PW.pt (pw_or (pt_not (pt_tru (pe_call G_are_parts (hr.mono (by decide)) rfl T.g_are_parts kp_are_parts b_are_parts .nil passL (pa_cons (pv 2) (pa_cons (pv 3) (pa_cons (pv 4) (pa_cons (pv 6) pa_nil))))))) (pw_or1 (pt_not (pt_tru (pe_call G_is_within (hr.mono (by decide)) rfl T.g_is_within kp_is_within b_is_within .nil passL (pa_cons (pv 5) (pa_cons pe_int (pa_cons pe_int pa_nil))))))))) (pss_one (ps_ret pe_bl)) pss_nil)
  (pss_one (ps_ret (pe_and (pe_cmpR (op_eqD hr.units) (pv 5) (pe_call G_phase_of (hr.mono (by decide)) rfl T.g_phase_of kp_phase_of b_phase_of .nil passL (pa_cons (pv 1) pa_nil)) (nomark _)) (pe_one (pe_cmpR (op_eqD hr.units) (pv 6) (pv 1) (nomark _)))))))))
theorem sc_law_new_descriptor : FnScope N_law_new_descriptor ["_law_value", "_law_number"] (defScope s_law_new_descriptor) := ⟨rfl, rfl, rfl, by decide +kernel, rfl, by decide +kernel, by decide +kernel⟩
theorem ok_law_new_descriptor (T : Tx K mg) (hF : ∃ fd, FunD K "_law_new_descriptor" "_law_new_descriptor" (defArgs s_law_new_descriptor) (defBody s_law_new_descriptor) (defScope s_law_new_descriptor) [] [] (He.fAd K ("_law_new_descriptor", none)) fd) (h_law_fit : Okd P w K mg base 2 (He.fAd K ("_law_fit", none)) ["_law_parts"] (sp_law_fit K)) (h_law_integer : Okd P w K mg base 1 (He.fAd K ("_law_integer", none)) ["_law_value", "_law_low", "_law_high"] (sp_law_integer K)) (h_law_phase : Okd P w K mg base 1 (He.fAd K ("_law_phase", none)) ["_law_number"] (sp_law_phase K)) : Okd P w K mg base 3 (He.fAd K ("_law_new_descriptor", none)) ["_law_value", "_law_number"] (sp_law_new_descriptor K) := by
  obtain ⟨fd_law_fit, G_law_fit, b_law_fit, kp_law_fit, _⟩ := h_law_fit
  obtain ⟨fd_law_integer, G_law_integer, b_law_integer, kp_law_integer, _⟩ := h_law_integer
  obtain ⟨fd_law_phase, G_law_phase, b_law_phase, kp_law_phase, _⟩ := h_law_phase
  refine Okd.of hF sc_law_new_descriptor (fun vs H Q E h => match vs, h with | [_, _], _ => rfl) (fun _ _ _ _ _ _ us hl => match us, hl with | [_, _], _ => rfl) (t := t_law_new_descriptor K) (fun cdv A outer s H E hr => ?_) (fun vs H Q E h => match vs, h with | [a0, a1], h => pure_law_new_descriptor h)
  have nd := sc_law_new_descriptor.nd
  exact (pss_cons (ps_if (PW.pt (pw_or (pt_not (pt_tru (pe_callB cr_isi (by rfl) T.b_isinstance (by decide +kernel) (pa_cons (pv 0) (pa_cons (pe_bltn (v := .ty "tuple") (by rfl) T.b_tuple (by decide +kernel) rfl) pa_nil))))) (pw_or (pt_cmpR (op_neD hr.units) (pe_callB cr_len (by rfl) T.b_len (by decide +kernel) (pa_cons (pv 0) pa_nil)) pe_int (nomark _)) (pw_or1 (pt_not (pt_tru (pe_call G_law_fit (hr.mono (by decide)) rfl T.g__law_fit kp_law_fit b_law_fit .nil passL (pa_cons (pe_tup (pa_cons (pe_ix ix_seq (pv 0) pe_int (fun _ _ => rfl)) (pa_cons (pe_ix ix_seq (pv 0) pe_int (fun _ _ => rfl)) (pa_cons (pe_ix ix_seq (pv 0) pe_int (fun _ _ => rfl)) (pa_cons (pe_ix ix_seq (pv 0) pe_int (fun _ _ => rfl)) pa_nil))))) pa_nil)))))))) (pss_one (ps_ret pe_bl)) pss_nil)
  (pss_one (ps_ret (pe_and (pe_call G_law_integer (hr.mono (by decide)) rfl T.g__law_integer kp_law_integer b_law_integer .nil passL (pa_cons (pe_ix ix_seq (pv 0) pe_int (fun _ _ => rfl)) (pa_cons pe_int (pa_cons pe_int pa_nil)))) (pe_and (pe_cmpR (op_eqD hr.units) (pe_ix ix_seq (pv 0) pe_int (fun _ _ => rfl)) (pe_call G_law_phase (hr.mono (by decide)) rfl T.g__law_phase kp_law_phase b_law_phase .nil passL (pa_cons (pv 1) pa_nil)) (nomark _)) (pe_one (pe_cmpR (op_eqD hr.units) (pe_ix ix_seq (pv 0) pe_int (fun _ _ => rfl)) (pv 1) (nomark _))))))))
theorem sc_is_new_completion : FnScope N_is_new_completion ["value", "number"] (defScope s_is_new_completion) := ⟨rfl, rfl, rfl, by decide +kernel, rfl, by decide +kernel, by decide +kernel⟩
theorem ok_is_new_completion (T : Tx K mg) (hF : ∃ fd, FunD K "is_new_completion" "is_new_completion" (defArgs s_is_new_completion) (defBody s_is_new_completion) (defScope s_is_new_completion) [] [] (He.fAd K ("is_new_completion", none)) fd) (h_is_within : Okd P w K mg base 1 (He.fAd K ("is_within", none)) ["value", "low", "high"] (sp_is_within K)) (h_phase_of : Okd P w K mg base 1 (He.fAd K ("phase_of", none)) ["number"] (sp_phase_of K)) : Okd P w K mg base 2 (He.fAd K ("is_new_completion", none)) ["value", "number"] (sp_is_new_completion K) := by
  obtain ⟨fd_is_within, G_is_within, b_is_within, kp_is_within, _⟩ := h_is_within
  obtain ⟨fd_phase_of, G_phase_of, b_phase_of, kp_phase_of, _⟩ := h_phase_of
  refine Okd.of hF sc_is_new_completion (fun vs H Q E h => match vs, h with | [_, _], _ => rfl) (fun _ _ _ _ _ _ us hl => match us, hl with | [_, _], _ => rfl) (t := t_is_new_completion K) (fun cdv A outer s H E hr => ?_) (fun vs H Q E h => match vs, h with | [a0, a1], h => pure_is_new_completion h)
  have nd := sc_is_new_completion.nd
  exact (pss_cons (ps_if (PW.pt (pw_or (pt_not (pt_tru (pe_callB cr_isi (by rfl) T.b_isinstance (by decide +kernel) (pa_cons (pv 0) (pa_cons (pe_bltn (v := .ty "tuple") (by rfl) T.b_tuple (by decide +kernel) rfl) pa_nil))))) (pw_or (pt_cmpR (op_neD hr.units) (pe_callB cr_len (by rfl) T.b_len (by decide +kernel) (pa_cons (pv 0) pa_nil)) pe_int (nomark _)) (pw_or1 (pt_not (pt_tru (pe_call G_is_within (hr.mono (by decide)) rfl T.g_is_within kp_is_within b_is_within .nil passL (pa_cons (pe_ix ix_seq (pv 0) pe_int (fun _ _ => rfl)) (pa_cons pe_int (pa_cons (pe_op op_subN (pe_gint rfl T.c_TAGS) pe_int) pa_nil)))))))))) (pss_one (ps_ret pe_bl)) pss_nil)
  (pss_one (ps_ret (pe_and (pe_cmpR (op_eqD hr.units) (pe_ix ix_seq (pv 0) pe_int (fun _ _ => rfl)) pe_str (nomark _)) (pe_and (pe_call G_is_within (hr.mono (by decide)) rfl T.g_is_within kp_is_within b_is_within .nil passL (pa_cons (pe_ix ix_seq (pv 0) pe_int (fun _ _ => rfl)) (pa_cons pe_int (pa_cons pe_int pa_nil)))) (pe_one (pe_cmpR (op_eqD hr.units) (pe_ix ix_seq (pv 0) pe_int (fun _ _ => rfl)) (pe_call G_phase_of (hr.mono (by decide)) rfl T.g_phase_of kp_phase_of b_phase_of .nil passL (pa_cons (pv 1) pa_nil)) (nomark _))))))))
theorem sc_law_new_completion : FnScope N_law_new_completion ["_law_value", "_law_number"] (defScope s_law_new_completion) := ⟨rfl, rfl, rfl, by decide +kernel, rfl, by decide +kernel, by decide +kernel⟩
theorem ok_law_new_completion (T : Tx K mg) (hF : ∃ fd, FunD K "_law_new_completion" "_law_new_completion" (defArgs s_law_new_completion) (defBody s_law_new_completion) (defScope s_law_new_completion) [] [] (He.fAd K ("_law_new_completion", none)) fd) (h_law_integer : Okd P w K mg base 1 (He.fAd K ("_law_integer", none)) ["_law_value", "_law_low", "_law_high"] (sp_law_integer K)) (h_law_phase : Okd P w K mg base 1 (He.fAd K ("_law_phase", none)) ["_law_number"] (sp_law_phase K)) : Okd P w K mg base 2 (He.fAd K ("_law_new_completion", none)) ["_law_value", "_law_number"] (sp_law_new_completion K) := by
  obtain ⟨fd_law_integer, G_law_integer, b_law_integer, kp_law_integer, _⟩ := h_law_integer
  obtain ⟨fd_law_phase, G_law_phase, b_law_phase, kp_law_phase, _⟩ := h_law_phase
  refine Okd.of hF sc_law_new_completion (fun vs H Q E h => match vs, h with | [_, _], _ => rfl) (fun _ _ _ _ _ _ us hl => match us, hl with | [_, _], _ => rfl) (t := t_law_new_completion K) (fun cdv A outer s H E hr => ?_) (fun vs H Q E h => match vs, h with | [a0, a1], h => pure_law_new_completion h)
  have nd := sc_law_new_completion.nd
  exact (pss_cons (ps_if (PW.pt (pw_or (pt_not (pt_tru (pe_callB cr_isi (by rfl) T.b_isinstance (by decide +kernel) (pa_cons (pv 0) (pa_cons (pe_bltn (v := .ty "tuple") (by rfl) T.b_tuple (by decide +kernel) rfl) pa_nil))))) (pw_or (pt_cmpR (op_neD hr.units) (pe_callB cr_len (by rfl) T.b_len (by decide +kernel) (pa_cons (pv 0) pa_nil)) pe_int (nomark _)) (pw_or1 (pt_not (pt_tru (pe_call G_law_integer (hr.mono (by decide)) rfl T.g__law_integer kp_law_integer b_law_integer .nil passL (pa_cons (pe_ix ix_seq (pv 0) pe_int (fun _ _ => rfl)) (pa_cons pe_int (pa_cons pe_int pa_nil)))))))))) (pss_one (ps_ret pe_bl)) pss_nil)
  (pss_cons (ps_if (PW.pt (pw_or (pt_not (pt_tru (pe_callB cr_isi (by rfl) T.b_isinstance (by decide +kernel) (pa_cons (pe_ix ix_seq (pv 0) pe_int (fun _ _ => rfl)) (pa_cons (pe_bltn (v := .ty "str") (by rfl) T.b_str (by decide +kernel) rfl) pa_nil))))) (pw_or1 (pt_cmpR (op_neD hr.units) (pe_ix ix_seq (pv 0) pe_int (fun _ _ => rfl)) pe_str (nomark _))))) (pss_one (ps_ret pe_bl)) pss_nil)
  (pss_one (ps_ret (pe_and (pe_call G_law_integer (hr.mono (by decide)) rfl T.g__law_integer kp_law_integer b_law_integer .nil passL (pa_cons (pe_ix ix_seq (pv 0) pe_int (fun _ _ => rfl)) (pa_cons pe_int (pa_cons pe_int pa_nil)))) (pe_one (pe_cmpR (op_eqD hr.units) (pe_ix ix_seq (pv 0) pe_int (fun _ _ => rfl)) (pe_call G_law_phase (hr.mono (by decide)) rfl T.g__law_phase kp_law_phase b_law_phase .nil passL (pa_cons (pv 1) pa_nil)) (nomark _))))))))
theorem sc_law : FnScope N_law ["_law_script"] (defScope s_law) := ⟨rfl, rfl, rfl, by decide +kernel, rfl, by decide +kernel, by decide +kernel⟩
theorem ok_law (T : Tx K mg) (Z : Zx K) (hF : ∃ fd, FunD K "law" "law" (defArgs s_law) (defBody s_law) (defScope s_law) [] [] (He.fAd K ("law", none)) fd) (h_buffer_page : Okd P w K mg base 1 (He.fAd K ("buffer_page", none)) ["tag"] (sp_buffer_page K)) (h_law_tape : Okd P w K mg base 1 (He.fAd K ("_law_tape", none)) ["_law_script"] (sp_law_tape K)) (h_law_at : Okd P w K mg base 1 (He.fAd K ("_law_at", none)) ["_law_tape_here", "_law_k"] (sp_law_at K)) (h_slot_of : Okd P w K mg base 1 (He.fAd K ("slot_of", none)) ["number"] (sp_slot_of K)) (h_phase_of : Okd P w K mg base 1 (He.fAd K ("phase_of", none)) ["number"] (sp_phase_of K)) (h_law_phase : Okd P w K mg base 1 (He.fAd K ("_law_phase", none)) ["_law_number"] (sp_law_phase K)) (h_law_told : Okd P w K mg base 4 (He.fAd K ("_law_told", none)) ["_law_act", "_law_parts"] (sp_law_told K)) (h_law_fit : Okd P w K mg base 2 (He.fAd K ("_law_fit", none)) ["_law_parts"] (sp_law_fit K)) (h_descriptor : Okd P w K mg base 3 (He.fAd K ("descriptor", none)) ["tag", "kind", "block", "sequence"] (sp_descriptor K)) (h_law_bent : Okd P w K mg base 1 (He.fAd K ("_law_bent", none)) ["_law_value", "_law_number", "_law_odd"] (sp_law_bent K)) (h_law_same : Okd P w K mg base 1 (He.fAd K ("_law_same", none)) ["_law_told_here", "_law_due"] (sp_law_same K)) (h_is_new_descriptor : Okd P w K mg base 3 (He.fAd K ("is_new_descriptor", none)) ["value", "number"] (sp_is_new_descriptor K)) (h_law_new_descriptor : Okd P w K mg base 3 (He.fAd K ("_law_new_descriptor", none)) ["_law_value", "_law_number"] (sp_law_new_descriptor K)) (h_is_new_completion : Okd P w K mg base 2 (He.fAd K ("is_new_completion", none)) ["value", "number"] (sp_is_new_completion K)) (h_law_new_completion : Okd P w K mg base 2 (He.fAd K ("_law_new_completion", none)) ["_law_value", "_law_number"] (sp_law_new_completion K)) : Okd P w K mg base 5 (He.fAd K ("law", none)) ["_law_script"] (sp_law K) := by
  obtain ⟨fd_buffer_page, G_buffer_page, b_buffer_page, kp_buffer_page, _⟩ := h_buffer_page
  obtain ⟨fd_law_tape, G_law_tape, b_law_tape, kp_law_tape, _⟩ := h_law_tape
  obtain ⟨fd_law_at, G_law_at, b_law_at, kp_law_at, _⟩ := h_law_at
  obtain ⟨fd_slot_of, G_slot_of, b_slot_of, kp_slot_of, _⟩ := h_slot_of
  obtain ⟨fd_phase_of, G_phase_of, b_phase_of, kp_phase_of, _⟩ := h_phase_of
  obtain ⟨fd_law_phase, G_law_phase, b_law_phase, kp_law_phase, _⟩ := h_law_phase
  obtain ⟨fd_law_told, G_law_told, b_law_told, kp_law_told, _⟩ := h_law_told
  obtain ⟨fd_law_fit, G_law_fit, b_law_fit, kp_law_fit, _⟩ := h_law_fit
  obtain ⟨fd_descriptor, G_descriptor, b_descriptor, kp_descriptor, _⟩ := h_descriptor
  obtain ⟨fd_law_bent, G_law_bent, b_law_bent, kp_law_bent, _⟩ := h_law_bent
  obtain ⟨fd_law_same, G_law_same, b_law_same, kp_law_same, _⟩ := h_law_same
  obtain ⟨fd_is_new_descriptor, G_is_new_descriptor, b_is_new_descriptor, kp_is_new_descriptor, _⟩ := h_is_new_descriptor
  obtain ⟨fd_law_new_descriptor, G_law_new_descriptor, b_law_new_descriptor, kp_law_new_descriptor, _⟩ := h_law_new_descriptor
  obtain ⟨fd_is_new_completion, G_is_new_completion, b_is_new_completion, kp_is_new_completion, _⟩ := h_is_new_completion
  obtain ⟨fd_law_new_completion, G_law_new_completion, b_law_new_completion, kp_law_new_completion, _⟩ := h_law_new_completion
  refine Okd.of hF sc_law (fun vs H Q E h => match vs, h with | [_], _ => rfl) (fun _ _ _ _ _ _ us hl => match us, hl with | [_], _ => rfl) (t := t_law K) (fun cdv A outer s H E hr => ?_) (fun vs H Q E h => match vs, h with | [a0], h => pure_law Z h)
  have nd := sc_law.nd
  exact (pss_cons (ps_if (PW.pt (pw_or (pt_cmpR (op_neD hr.units) (pe_tup (pa_cons (pe_gint rfl T.c_SLOTS) (pa_cons (pe_gint rfl T.c_TAGS) (pa_cons (pe_gint rfl T.c_SUBMISSIONS) (pa_cons (pe_gint rfl T.c_COMPLETIONS) pa_nil))))) (pe_tup (pa_cons pe_int (pa_cons pe_int (pa_cons pe_int (pa_cons pe_int pa_nil))))) (nomark _)) (pw_or1 (pt_cmpR (op_neD hr.units) (pe_lc (own := [("_law_tag", 10)]) (g := gName 10) (tt := tYes) (te := tCall (sp_buffer_page K) [] E0 (tCons (tVar 10) (tNil))) rfl nd (pi_range1 rfl T.b_range (pa_cons pe_int pa_nil)) (blkOk_by (own := [("_law_tag", 10)]) (N := N_law) (sc := defScope s_law) (by decide +kernel)) (fun _ _ _ _ _ => (pg_name (i := 10) nd rfl (Or.inl rfl))) (fun _ _ _ _ _ => pts_nil) (fun _ _ _ _ _ => (pe_call G_buffer_page (hr.mono (by decide)) rfl T.g_buffer_page kp_buffer_page b_buffer_page .nil passL (pa_cons (pv 10) pa_nil)))) (pe_lst (pa_cons pe_int (pa_cons pe_int (pa_cons pe_int (pa_cons pe_int pa_nil))))) (nomark _))))) (pss_one (ps_ret pe_bl)) pss_nil)
  (pss_cons (ps_set (i := 1) nd rfl (Or.inl rfl) (pe_call G_law_tape (hr.mono (by decide)) rfl T.g__law_tape kp_law_tape b_law_tape .nil passL (pa_cons (pv 0) pa_nil)))
  (pss_cons (ps_for (passes_of rfl) rfl (pi_range1 rfl T.b_range (pa_cons (pe_callB (cr_min2 rfl) (by rfl) T.b_min (by decide +kernel) (pa_cons pe_int (pa_cons (pe_op op_addA pe_int (pe_op op_divN (pe_callB cr_len (by rfl) T.b_len (by decide +kernel) (pa_cons (pv 1) pa_nil)) pe_int)) pa_nil))) pa_nil)) (pg_name (i := 2) nd rfl (Or.inl rfl)) (pss_cons (ps_set (i := 3) nd rfl (Or.inl rfl) (pe_op op_addA (pe_op op_mulA (pe_call G_law_at (hr.mono (by decide)) rfl T.g__law_at kp_law_at b_law_at .nil passL (pa_cons (pv 1) (pa_cons (pe_op op_mulA pe_int (pv 2)) pa_nil))) (pe_ix ix_seq (pe_lst (pa_cons pe_int (pa_cons pe_int (pa_cons pe_int pa_nil)))) (pe_op op_modI (pv 2) pe_int) (fun _ _ => rfl))) (pe_op op_modI (pe_call G_law_at (hr.mono (by decide)) rfl T.g__law_at kp_law_at b_law_at .nil passL (pa_cons (pv 1) (pa_cons (pe_op op_addA (pe_op op_mulA pe_int (pv 2)) pe_int) pa_nil))) pe_int)))
  (pss_cons (ps_set (i := 4) nd rfl (Or.inl rfl) (pe_call G_law_at (hr.mono (by decide)) rfl T.g__law_at kp_law_at b_law_at .nil passL (pa_cons (pv 1) (pa_cons (pe_op op_addA (pe_op op_mulA pe_int (pv 2)) pe_int) pa_nil))))
  (pss_cons (ps_set (i := 5) nd rfl (Or.inl rfl) (pe_ix ix_seq (pe_lst (pa_cons (pe_un un_negI pe_int) (pa_cons pe_int (pa_cons pe_int (pa_cons pe_bl (pa_cons pe_non (pa_cons pe_str (pa_cons pe_str (pa_cons pe_int (pa_cons pe_int (pa_cons pe_str (pa_cons (pe_tup (pa_cons pe_int pa_nil)) (pa_cons pe_str pa_nil))))))))))))) (pe_op op_modI (pe_call G_law_at (hr.mono (by decide)) rfl T.g__law_at kp_law_at b_law_at .nil passL (pa_cons (pv 1) (pa_cons (pe_op op_addA (pe_op op_mulA pe_int (pv 2)) pe_int) pa_nil))) pe_int) (fun _ _ => rfl)))
  (pss_cons (ps_if (PW.pt (pw_or (pt_cmpR (op_neD hr.units) (pe_call G_slot_of (hr.mono (by decide)) rfl T.g_slot_of kp_slot_of b_slot_of .nil passL (pa_cons (pv 3) pa_nil)) (pe_op op_modI (pv 3) pe_int) (nomark _)) (pw_or1 (pt_cmpR (op_neD hr.units) (pe_call G_phase_of (hr.mono (by decide)) rfl T.g_phase_of kp_phase_of b_phase_of .nil passL (pa_cons (pv 3) pa_nil)) (pe_call G_law_phase (hr.mono (by decide)) rfl T.g__law_phase kp_law_phase b_law_phase .nil passL (pa_cons (pv 3) pa_nil)) (nomark _))))) (pss_one (ps_ret pe_bl)) pss_nil)
  (pss_cons (ps_set (i := 6) nd rfl (Or.inl rfl) (pe_lst (pa_cons (pe_op op_modI (pv 4) pe_int) (pa_cons (pe_ix ix_seq (pe_lst (pa_cons pe_str (pa_cons pe_str pa_nil))) (pe_op op_modI (pe_op op_divN (pv 4) pe_int) pe_int) (fun _ _ => rfl)) (pa_cons (pe_op op_modI (pe_op op_divN (pv 4) pe_int) pe_int) (pa_cons (pv 3) pa_nil))))))
  (pss_cut (ps_if (pt_cmpR (op_eqD hr.units) (pe_op op_modI (pv 4) pe_int) pe_int (nomark _)) (pss_one (ps_asg (pv 5) (pg_sub (pv 6) (pe_op op_modI (pe_op op_divN (pv 4) pe_int) pe_int) set_list))) pss_nil)
  (pss_cons (ps_set (i := 7) nd rfl (Or.inl rfl) (pe_call G_law_told (hr.mono (by decide)) rfl T.g__law_told kp_law_told b_law_told .nil passL (pa_cons pe_str (pa_cons (pv 6) pa_nil))))
  (pss_cut (ps_if (pt_not (pt_tru (pe_call G_law_fit (hr.mono (by decide)) rfl T.g__law_fit kp_law_fit b_law_fit .nil passL (pa_cons (pv 6) pa_nil)))) (pss_cons (ps_if (pt_cmpR (op_neD hr.units) (pv 7) (pe_lst (pa_cons pe_str (pa_cons pe_bl pa_nil))) (nomark _)) (pss_one (ps_ret pe_bl)) pss_nil)
  (pss_cons (ps_set (i := 6) nd rfl (Or.inl rfl) (pe_lst (pa_cons pe_int (pa_cons pe_str (pa_cons pe_int (pa_cons (pv 3) pa_nil))))))
  (pss_one (ps_set (i := 7) nd rfl (Or.inl rfl) (pe_call G_descriptor (hr.mono (by decide)) rfl T.g_descriptor kp_descriptor b_descriptor .nil passL (pa_cons pe_int (pa_cons pe_str (pa_cons pe_int (pa_cons (pv 3) pa_nil))))))))) pss_nil)
  (pss_cons (ps_if (pt_cmpR (op_neD hr.units) (pv 7) (pe_tup (pa_cons (pe_ix ix_seq (pv 6) pe_int (fun _ _ => rfl)) (pa_cons (pe_ix ix_seq (pv 6) pe_int (fun _ _ => rfl)) (pa_cons (pe_ix ix_seq (pv 6) pe_int (fun _ _ => rfl)) (pa_cons (pe_call G_law_phase (hr.mono (by decide)) rfl T.g__law_phase kp_law_phase b_law_phase .nil passL (pa_cons (pe_ix ix_seq (pv 6) pe_int (fun _ _ => rfl)) pa_nil)) (pa_cons (pe_ix ix_seq (pv 6) pe_int (fun _ _ => rfl)) pa_nil)))))) (nomark _)) (pss_one (ps_ret pe_bl)) pss_nil)
  (pss_cons (ps_set (i := 8) nd rfl (Or.inl rfl) (pe_op op_addA (pv 3) (pe_ix ix_seq (pe_lst (pa_cons pe_int (pa_cons pe_int (pa_cons pe_int (pa_cons pe_int (pa_cons pe_int pa_nil)))))) (pe_op op_modI (pe_call G_law_at (hr.mono (by decide)) rfl T.g__law_at kp_law_at b_law_at .nil passL (pa_cons (pv 1) (pa_cons (pe_op op_addA (pe_op op_mulA pe_int (pv 2)) pe_int) pa_nil))) pe_int) (fun _ _ => rfl))))
  (pss_cons (ps_set (i := 9) nd rfl (Or.inl rfl) (pe_call G_law_bent (hr.mono (by decide)) rfl T.g__law_bent kp_law_bent b_law_bent .nil passL (pa_cons (pv 7) (pa_cons (pe_call G_law_at (hr.mono (by decide)) rfl T.g__law_at kp_law_at b_law_at .nil passL (pa_cons (pv 1) (pa_cons (pe_op op_addA (pe_op op_mulA pe_int (pv 2)) pe_int) pa_nil))) (pa_cons (pv 5) pa_nil)))))
  (pss_cons (ps_if (pt_not (pt_tru (pe_call G_law_same (hr.mono (by decide)) rfl T.g__law_same kp_law_same b_law_same .nil passL (pa_cons (pe_call G_is_new_descriptor (hr.mono (by decide)) rfl T.g_is_new_descriptor kp_is_new_descriptor b_is_new_descriptor .nil passL (pa_cons (pv 9) (pa_cons (pv 8) pa_nil))) (pa_cons (pe_call G_law_new_descriptor (hr.mono (by decide)) rfl T.g__law_new_descriptor kp_law_new_descriptor b_law_new_descriptor .nil passL (pa_cons (pv 9) (pa_cons (pv 8) pa_nil))) pa_nil))))) (pss_one (ps_ret pe_bl)) pss_nil)
  (pss_cons (ps_set (i := 7) nd rfl (Or.inl rfl) (pe_call G_law_told (hr.mono (by decide)) rfl T.g__law_told kp_law_told b_law_told .nil passL (pa_cons pe_str (pa_cons (pe_lst (pa_cons (pe_ix ix_seq (pv 6) pe_int (fun _ _ => rfl)) (pa_cons (pv 3) pa_nil))) pa_nil))))
  (pss_cons (ps_if (PW.pt (pw_or (pt_cmpR (op_neD hr.units) (pv 7) (pe_tup (pa_cons (pe_ix ix_seq (pv 6) pe_int (fun _ _ => rfl)) (pa_cons pe_str (pa_cons (pe_call G_law_phase (hr.mono (by decide)) rfl T.g__law_phase kp_law_phase b_law_phase .nil passL (pa_cons (pv 3) pa_nil)) pa_nil)))) (nomark _)) (pw_or1 (pt_cmpR (op_neD hr.units) (pe_call G_law_told (hr.mono (by decide)) rfl T.g__law_told kp_law_told b_law_told .nil passL (pa_cons pe_str (pa_cons (pe_lst (pa_cons pe_int (pa_cons pe_int pa_nil))) pa_nil))) (pe_lst (pa_cons pe_str (pa_cons pe_bl pa_nil))) (nomark _))))) (pss_one (ps_ret pe_bl)) pss_nil)
  (pss_cons (ps_if (pt_cmpR (op_neD hr.units) (pe_call G_law_told (hr.mono (by decide)) rfl T.g__law_told kp_law_told b_law_told .nil passL (pa_cons pe_str (pa_cons (pe_lst (pa_cons pe_int (pa_cons (pe_un un_negI pe_int) pa_nil))) pa_nil))) (pe_lst (pa_cons pe_str (pa_cons pe_bl pa_nil))) (nomark _)) (pss_one (ps_ret pe_bl)) pss_nil)
  (pss_cons (ps_set (i := 9) nd rfl (Or.inl rfl) (pe_call G_law_bent (hr.mono (by decide)) rfl T.g__law_bent kp_law_bent b_law_bent .nil passL (pa_cons (pv 7) (pa_cons (pe_call G_law_at (hr.mono (by decide)) rfl T.g__law_at kp_law_at b_law_at .nil passL (pa_cons (pv 1) (pa_cons (pe_op op_addA (pe_op op_mulA pe_int (pv 2)) pe_int) pa_nil))) (pa_cons (pv 5) pa_nil)))))
  (pss_one (ps_if (pt_not (pt_tru (pe_call G_law_same (hr.mono (by decide)) rfl T.g__law_same kp_law_same b_law_same .nil passL (pa_cons (pe_call G_is_new_completion (hr.mono (by decide)) rfl T.g_is_new_completion kp_is_new_completion b_is_new_completion .nil passL (pa_cons (pv 9) (pa_cons (pv 8) pa_nil))) (pa_cons (pe_call G_law_new_completion (hr.mono (by decide)) rfl T.g__law_new_completion kp_law_new_completion b_law_new_completion .nil passL (pa_cons (pv 9) (pa_cons (pv 8) pa_nil))) pa_nil))))) (pss_one (ps_ret pe_bl)) pss_nil)))))))))))))))))))
  (pss_one (ps_ret pe_bl)))))
end
def dd_buffer_page : He.DefD := ⟨("buffer_page", none), "buffer_page", "buffer_page", defArgs s_buffer_page, defBody s_buffer_page, defScope s_buffer_page, [], []⟩
def dd_law_tape : He.DefD := ⟨("_law_tape", none), "_law_tape", "_law_tape", defArgs s_law_tape, defBody s_law_tape, defScope s_law_tape, [], []⟩
def dd_law_at : He.DefD := ⟨("_law_at", none), "_law_at", "_law_at", defArgs s_law_at, defBody s_law_at, defScope s_law_at, [], []⟩
def dd_slot_of : He.DefD := ⟨("slot_of", none), "slot_of", "slot_of", defArgs s_slot_of, defBody s_slot_of, defScope s_slot_of, [], []⟩
def dd_phase_of : He.DefD := ⟨("phase_of", none), "phase_of", "phase_of", defArgs s_phase_of, defBody s_phase_of, defScope s_phase_of, [], []⟩
def dd_law_phase : He.DefD := ⟨("_law_phase", none), "_law_phase", "_law_phase", defArgs s_law_phase, defBody s_law_phase, defScope s_law_phase, [], []⟩
def dd_is_within : He.DefD := ⟨("is_within", none), "is_within", "is_within", defArgs s_is_within, defBody s_is_within, defScope s_is_within, [], []⟩
def dd_is_count : He.DefD := ⟨("is_count", none), "is_count", "is_count", defArgs s_is_count, defBody s_is_count, defScope s_is_count, [], []⟩
def dd_are_parts : He.DefD := ⟨("are_parts", none), "are_parts", "are_parts", defArgs s_are_parts, defBody s_are_parts, defScope s_are_parts, [], []⟩
def dd_descriptor : He.DefD := ⟨("descriptor", none), "descriptor", "descriptor", defArgs s_descriptor, defBody s_descriptor, defScope s_descriptor, [], []⟩
def dd_completion : He.DefD := ⟨("completion", none), "completion", "completion", defArgs s_completion, defBody s_completion, defScope s_completion, [], []⟩
def dd_law_told : He.DefD := ⟨("_law_told", none), "_law_told", "_law_told", defArgs s_law_told, defBody s_law_told, defScope s_law_told, [], []⟩
def dd_law_integer : He.DefD := ⟨("_law_integer", none), "_law_integer", "_law_integer", defArgs s_law_integer, defBody s_law_integer, defScope s_law_integer, [], []⟩
def dd_law_fit : He.DefD := ⟨("_law_fit", none), "_law_fit", "_law_fit", defArgs s_law_fit, defBody s_law_fit, defScope s_law_fit, [], []⟩
def dd_law_bent : He.DefD := ⟨("_law_bent", none), "_law_bent", "_law_bent", defArgs s_law_bent, defBody s_law_bent, defScope s_law_bent, [], []⟩
def dd_law_same : He.DefD := ⟨("_law_same", none), "_law_same", "_law_same", defArgs s_law_same, defBody s_law_same, defScope s_law_same, [], []⟩
def dd_is_new_descriptor : He.DefD := ⟨("is_new_descriptor", none), "is_new_descriptor", "is_new_descriptor", defArgs s_is_new_descriptor, defBody s_is_new_descriptor, defScope s_is_new_descriptor, [], []⟩
def dd_law_new_descriptor : He.DefD := ⟨("_law_new_descriptor", none), "_law_new_descriptor", "_law_new_descriptor", defArgs s_law_new_descriptor, defBody s_law_new_descriptor, defScope s_law_new_descriptor, [], []⟩
def dd_is_new_completion : He.DefD := ⟨("is_new_completion", none), "is_new_completion", "is_new_completion", defArgs s_is_new_completion, defBody s_is_new_completion, defScope s_is_new_completion, [], []⟩
def dd_law_new_completion : He.DefD := ⟨("_law_new_completion", none), "_law_new_completion", "_law_new_completion", defArgs s_law_new_completion, defBody s_law_new_completion, defScope s_law_new_completion, [], []⟩
def dd_law : He.DefD := ⟨("law", none), "law", "law", defArgs s_law, defBody s_law, defScope s_law, [], []⟩
def fn : List He.DefD := [dd_buffer_page, dd_law_tape, dd_law_at, dd_slot_of, dd_phase_of, dd_law_phase, dd_is_within, dd_is_count, dd_are_parts, dd_descriptor, dd_completion, dd_law_told, dd_law_integer, dd_law_fit, dd_law_bent, dd_law_same, dd_is_new_descriptor, dd_law_new_descriptor, dd_is_new_completion, dd_law_new_completion, dd_law]
def fa : List He.Fa := [.free "abs", .free "bool", .free "int", .free "isinstance", .free "len", .free "list", .free "min", .free "range", .free "str", .free "tuple", .int "COMPLETIONS" 1, .int "FIRST_BUFFER" 2, .int "MOST_BLOCK" 7, .int "SLOTS" 4, .int "SUBMISSIONS" 0, .int "TAGS" 4, .glo "KINDS", .glo "NotValid", .glo "RingError", .glo "_law_at", .glo "_law_bent", .glo "_law_fit", .glo "_law_integer", .glo "_law_new_completion", .glo "_law_new_descriptor", .glo "_law_phase", .glo "_law_same", .glo "_law_tape", .glo "_law_told", .glo "are_parts", .glo "buffer_page", .glo "completion", .glo "descriptor", .glo "is_count", .glo "is_new_completion", .glo "is_new_descriptor", .glo "is_within", .glo "phase_of", .glo "slot_of", .glo "NotValid", .exc "NotValid", .exm "NotValid" "RingError" true, .glo "law"]
def ex : PySem.W.Frag → Bool := fun K => excCB K "NotValid" && He.tupB K "KINDS" [.str "read", .str "write"]
theorem zex_NotValid {K : PySem.W.Frag} (h : ex K = true) : excCB K "NotValid" = true := (He.ba h).1
theorem zex_KINDS {K : PySem.W.Frag} (h : ex K = true) : He.tupB K "KINDS" [.str "read", .str "write"] = true := (He.ba h).2
theorem tupB_at {K : PySem.W.Frag} (h : He.tupB K "KINDS" [.str "read", .str "write"] = true) (H : Hp) : SqT K H (He.ga K "KINDS") [.str "read", .str "write"] := He.tupB_ok h H
abbrev R : PySem.W.OpenRow := PySem.W.OpenLaw.row PySem.Challenge.rw_ringbound_k04_rings
abbrev hk : PySem.W.Hook := hookX 4 fa fn ex
def ob (s : PySem.W.SharedT) : AlX := obsX 4 fa fn ex (HandSHeadRun.getT s)
theorem ob_eq (s : PySem.W.SharedT) : ob s = hk.obs s.abs := obsX_eq (HandSHeadRun.getT_eq s)
def names : List PySem.Str := (["RingError", "NotValid", "is_within", "SLOTS", "TAGS", "SUBMISSIONS", "COMPLETIONS", "FIRST_BUFFER", "MOST_BLOCK", "KINDS", "buffer_page", "slot_of", "phase_of", "is_count", "are_parts", "descriptor", "completion", "is_new_descriptor", "is_new_completion", "_law_tape", "_law_at", "_law_integer", "_law_phase", "_law_told", "_law_fit", "_law_new_descriptor", "_law_new_completion", "_law_same", "_law_bent"] : List PySem.Str)
theorem run (w : World) : HandSHeadRun.RunEq R (PySem.W.view R.prog [33]) hk ob 4000 names w := by
  intro os
  kernel_rfl
theorem facts {P : Program} {w : World} {K : PySem.W.Frag} {h : Heap} {mg : Str → Option Value} {f : Addr} (X : K.In h) (G : h.Ns mainGlobals mg) (hfa : mg ("law" : Str) = some (.ref f)) (c : He.SaysD fa fn K) (hex : ex K = true) :
    ∃ fd : FuncData, (∀ (s : Shared) (v : Value), BindsTo s fd ⟨[v], []⟩ [("_law_script", v)]) ∧ ∀ base : Heap, K.In base → base.Ns mainGlobals mg → FnOk P w K mg base (L2.CX P w) 5 f fd ["_law_script"] (sp_law K) := by
  have e := hfa.symm.trans (He.glo_ok X G (c.fact 42 rfl))
  cases e
  have T : Tx K mg := ⟨He.free_ok X G (c.fact 0 rfl), He.free_ok X G (c.fact 1 rfl), He.free_ok X G (c.fact 2 rfl), He.free_ok X G (c.fact 3 rfl), He.free_ok X G (c.fact 4 rfl), He.free_ok X G (c.fact 5 rfl), He.free_ok X G (c.fact 6 rfl), He.free_ok X G (c.fact 7 rfl), He.free_ok X G (c.fact 8 rfl), He.free_ok X G (c.fact 9 rfl), He.int_ok X G (c.fact 10 rfl), He.int_ok X G (c.fact 11 rfl), He.int_ok X G (c.fact 12 rfl), He.int_ok X G (c.fact 13 rfl), He.int_ok X G (c.fact 14 rfl), He.int_ok X G (c.fact 15 rfl), excCB_ok (zex_NotValid hex), He.glo_ok X G (c.fact 16 rfl), He.glo_ok X G (c.fact 17 rfl), He.glo_ok X G (c.fact 18 rfl), He.glo_ok X G (c.fact 19 rfl), He.glo_ok X G (c.fact 20 rfl), He.glo_ok X G (c.fact 21 rfl), He.glo_ok X G (c.fact 22 rfl), He.glo_ok X G (c.fact 23 rfl), He.glo_ok X G (c.fact 24 rfl), He.glo_ok X G (c.fact 25 rfl), He.glo_ok X G (c.fact 26 rfl), He.glo_ok X G (c.fact 27 rfl), He.glo_ok X G (c.fact 28 rfl), He.glo_ok X G (c.fact 29 rfl), He.glo_ok X G (c.fact 30 rfl), He.glo_ok X G (c.fact 31 rfl), He.glo_ok X G (c.fact 32 rfl), He.glo_ok X G (c.fact 33 rfl), He.glo_ok X G (c.fact 34 rfl), He.glo_ok X G (c.fact 35 rfl), He.glo_ok X G (c.fact 36 rfl), He.glo_ok X G (c.fact 37 rfl), He.glo_ok X G (c.fact 38 rfl), xOk_of (He.glo_ok X G (c.fact 39 rfl)) (c.fact 40 rfl)⟩
  have Z : Zx K := ⟨He.exm_ok (c.fact 41 rfl), fun H => tupB_at (zex_KINDS hex) H⟩
  have ok_buffer_page : ∀ base : Heap, Okd P w K mg base 1 (He.fAd K ("buffer_page", none)) ["tag"] (sp_buffer_page K) := fun base => Rb04.ok_buffer_page T (c.def_ 0 (d := dd_buffer_page) rfl) 
  have ok_law_tape : ∀ base : Heap, Okd P w K mg base 1 (He.fAd K ("_law_tape", none)) ["_law_script"] (sp_law_tape K) := fun base => Rb04.ok_law_tape T (c.def_ 1 (d := dd_law_tape) rfl) 
  have ok_law_at : ∀ base : Heap, Okd P w K mg base 1 (He.fAd K ("_law_at", none)) ["_law_tape_here", "_law_k"] (sp_law_at K) := fun base => Rb04.ok_law_at T (c.def_ 2 (d := dd_law_at) rfl) 
  have ok_slot_of : ∀ base : Heap, Okd P w K mg base 1 (He.fAd K ("slot_of", none)) ["number"] (sp_slot_of K) := fun base => Rb04.ok_slot_of T (c.def_ 3 (d := dd_slot_of) rfl) 
  have ok_phase_of : ∀ base : Heap, Okd P w K mg base 1 (He.fAd K ("phase_of", none)) ["number"] (sp_phase_of K) := fun base => Rb04.ok_phase_of T (c.def_ 4 (d := dd_phase_of) rfl) 
  have ok_law_phase : ∀ base : Heap, Okd P w K mg base 1 (He.fAd K ("_law_phase", none)) ["_law_number"] (sp_law_phase K) := fun base => Rb04.ok_law_phase T (c.def_ 5 (d := dd_law_phase) rfl) 
  have ok_is_within : ∀ base : Heap, Okd P w K mg base 1 (He.fAd K ("is_within", none)) ["value", "low", "high"] (sp_is_within K) := fun base => Rb04.ok_is_within T (c.def_ 6 (d := dd_is_within) rfl) 
  have ok_is_count : ∀ base : Heap, Okd P w K mg base 1 (He.fAd K ("is_count", none)) ["value"] (sp_is_count K) := fun base => Rb04.ok_is_count T (c.def_ 7 (d := dd_is_count) rfl) 
  have ok_are_parts : ∀ base : Heap, Okd P w K mg base 2 (He.fAd K ("are_parts", none)) ["tag", "kind", "block", "sequence"] (sp_are_parts K) := fun base => Rb04.ok_are_parts T Z (c.def_ 8 (d := dd_are_parts) rfl) (ok_is_within base) (ok_is_count base)
  have ok_descriptor : ∀ base : Heap, Okd P w K mg base 3 (He.fAd K ("descriptor", none)) ["tag", "kind", "block", "sequence"] (sp_descriptor K) := fun base => Rb04.ok_descriptor T (c.def_ 9 (d := dd_descriptor) rfl) (ok_are_parts base) (ok_phase_of base)
  have ok_completion : ∀ base : Heap, Okd P w K mg base 2 (He.fAd K ("completion", none)) ["tag", "number"] (sp_completion K) := fun base => Rb04.ok_completion T (c.def_ 10 (d := dd_completion) rfl) (ok_is_within base) (ok_is_count base) (ok_phase_of base)
  have ok_law_told : ∀ base : Heap, Okd P w K mg base 4 (He.fAd K ("_law_told", none)) ["_law_act", "_law_parts"] (sp_law_told K) := fun base => Rb04.ok_law_told T Z (c.def_ 11 (d := dd_law_told) rfl) (ok_descriptor base) (ok_completion base)
  have ok_law_integer : ∀ base : Heap, Okd P w K mg base 1 (He.fAd K ("_law_integer", none)) ["_law_value", "_law_low", "_law_high"] (sp_law_integer K) := fun base => Rb04.ok_law_integer T (c.def_ 12 (d := dd_law_integer) rfl) 
  have ok_law_fit : ∀ base : Heap, Okd P w K mg base 2 (He.fAd K ("_law_fit", none)) ["_law_parts"] (sp_law_fit K) := fun base => Rb04.ok_law_fit T (c.def_ 13 (d := dd_law_fit) rfl) (ok_law_integer base)
  have ok_law_bent : ∀ base : Heap, Okd P w K mg base 1 (He.fAd K ("_law_bent", none)) ["_law_value", "_law_number", "_law_odd"] (sp_law_bent K) := fun base => Rb04.ok_law_bent T (c.def_ 14 (d := dd_law_bent) rfl) 
  have ok_law_same : ∀ base : Heap, Okd P w K mg base 1 (He.fAd K ("_law_same", none)) ["_law_told_here", "_law_due"] (sp_law_same K) := fun base => Rb04.ok_law_same T (c.def_ 15 (d := dd_law_same) rfl) 
  have ok_is_new_descriptor : ∀ base : Heap, Okd P w K mg base 3 (He.fAd K ("is_new_descriptor", none)) ["value", "number"] (sp_is_new_descriptor K) := fun base => Rb04.ok_is_new_descriptor T (c.def_ 16 (d := dd_is_new_descriptor) rfl) (ok_are_parts base) (ok_is_within base) (ok_phase_of base)
  have ok_law_new_descriptor : ∀ base : Heap, Okd P w K mg base 3 (He.fAd K ("_law_new_descriptor", none)) ["_law_value", "_law_number"] (sp_law_new_descriptor K) := fun base => Rb04.ok_law_new_descriptor T (c.def_ 17 (d := dd_law_new_descriptor) rfl) (ok_law_fit base) (ok_law_integer base) (ok_law_phase base)
  have ok_is_new_completion : ∀ base : Heap, Okd P w K mg base 2 (He.fAd K ("is_new_completion", none)) ["value", "number"] (sp_is_new_completion K) := fun base => Rb04.ok_is_new_completion T (c.def_ 18 (d := dd_is_new_completion) rfl) (ok_is_within base) (ok_phase_of base)
  have ok_law_new_completion : ∀ base : Heap, Okd P w K mg base 2 (He.fAd K ("_law_new_completion", none)) ["_law_value", "_law_number"] (sp_law_new_completion K) := fun base => Rb04.ok_law_new_completion T (c.def_ 19 (d := dd_law_new_completion) rfl) (ok_law_integer base) (ok_law_phase base)
  obtain ⟨fd, F⟩ := c.def_ 20 (d := dd_law) rfl
  have b := FunD.bindsA (ps := ["_law_script"]) F fun _ _ _ _ _ _ us hl => match us, hl with | [_], _ => rfl
  exact ⟨fd, fun s v => b s [v] rfl, fun base _ _ => Okd.fixD F (Rb04.ok_law T Z ⟨fd, F⟩ (ok_buffer_page base) (ok_law_tape base) (ok_law_at base) (ok_slot_of base) (ok_phase_of base) (ok_law_phase base) (ok_law_told base) (ok_law_fit base) (ok_descriptor base) (ok_law_bent base) (ok_law_same base) (ok_is_new_descriptor base) (ok_law_new_descriptor base) (ok_is_new_completion base) (ok_law_new_completion base))⟩
end Rb04
open PySem PySem.W PySem.Calls PyProof.Rows
theorem PySem.Challenge.cw_ringbound_k04_rings_holds : PySem.Challenge.rw_ringbound_k04_rings.Holds := by
  w_on; o_law
  refine HandSHeadRun.head_any (r := OpenLaw.row PySem.Challenge.rw_ringbound_k04_rings) (q := view (OpenLaw.row PySem.Challenge.rw_ringbound_k04_rings).prog [33]) (H := Rb04.hk) (ob := Rb04.ob) (M := 4000) (loose := Rb04.names) (d := HandSHeadRun.topDef (OpenLaw.row PySem.Challenge.rw_ringbound_k04_rings).prog 33) (kwd := []) Rb04.ob_eq
    (by kernel_rfl) (fun s => by kernel_rfl) Rb04.run (by kernel_rfl) (by kernel_rfl) (by kernel_rfl) (by rfl) (by first | assumption | decide +kernel) (by decide +kernel) ⟨rfl, rfl, rfl, rfl, rfl, by decide +kernel⟩ ?hw ?hc
  case hw => w_witness2
  case hc =>
    refine Rb.walk_ofX (l := PySem.Challenge.rw_ringbound_k04_rings) (n := 63) (k := 5) (x := "_law_script") rfl (by decide) (by kernel_rfl) ⟨rfl, by decide, by decide⟩ ?F
    intro w mg fa h Y G hmg0
    obtain ⟨K, KX, c, hex⟩ := Y
    have hmg : mg ("law" : PySem.Str) = some (.ref fa) := by
      have e : (HandSHeadRun.topDef (OpenLaw.row PySem.Challenge.rw_ringbound_k04_rings).prog 33).name = ("law" : PySem.Str) := by kernel_rfl
      rw [← e]
      exact hmg0
    obtain ⟨fd, hb, hF⟩ := Rb04.facts (P := (PySem.Challenge.rw_ringbound_k04_rings).prog) (w := w) KX G hmg c hex
    exact ⟨K, fd, Rb04.sp_law K, KX, hb, fun H a xs hl _ hS => ⟨a, xs, rfl, hl, hS, fun _ => rfl⟩, hF⟩

