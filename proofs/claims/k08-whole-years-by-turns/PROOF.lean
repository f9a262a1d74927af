import PyProof.Rows.All
import Wide.All
import OpenK.AllK
import Wide.FinOn
import KE.KStateDown
import Lean
import HandS.ForMost
import HandS.ForExc
import HandS.Defaults
import HandS.Head0
import HandS.Head1
import HandS.Head2
import HandS.HeadEnd
import HandS.HeadHook1
import HandS.HeadHook2
import HandS.HeadHook3
import HandS.EndBits
import HandS.IsInst
import HandS.StrMore
import HandS.Wide
import HandS.Walk
import HandS.Style
import HandS.Flow
import HandS.More
import HandS.SuiteRaise
import HandS.TryMany
import HandS.Small
import HandS.Deep
import PySem.Challenge.RW_knotpurse_k08_whole_years_by_turns
set_option Elab.async false
set_option linter.all false
set_option maxRecDepth 100000
set_option maxHeartbeats 2000000
namespace Kn
open PySem PySem.Spec PyProof.Rows L2

/-! ## defs by name -/
structure DefOk (P : Program) (w : World) (K : PySem.W.Frag) (mg : Str → Option Value) (base : Heap) (k : Nat) (p : Str × Option Str) (ps : List Str) (sp : Sp) : Prop where
  ex : ∃ fd, FnOk P w K mg base (L2.CX P w) k (He.fAd K p) fd ps sp ∧ Binds K fd ps [] ∧ ∃ oc od osl, K.lookup (He.fAd K p) = some ⟨oc, od, .func fd, osl⟩
  kp : PySem.W.keepIn K (.ref (He.fAd K p)) = true
theorem DefOk.mono {P w K mg base j k p ps sp} (G : DefOk P w K mg base j p ps sp) (h : j ≤ k) : DefOk P w K mg base k p ps sp := by
  obtain ⟨⟨fd, F, b, lk⟩, kp⟩ := G
  exact ⟨⟨fd, F.mono h, b, lk⟩, kp⟩

section
variable {X : Cx} {x m : Str} {e o : Expr} {es : List Expr} {t : TA} {p pos apos : Pos} {k : Nat} {ps : List Str} {sp : Sp} {E : XK} {ta : TE}
theorem kc (G : DefOk X.prog X.w X.K X.mg X.base k (x, none) ps sp) (hm : X.mg x = some (.ref (He.ga X.K x))) (hr : Room k X.A) (hx : Passes (L2.CX X.prog X.w) X E) (ha : PA X (e :: es) t) (hg : Gl X x := by rfl)
    (hdb : (x == ("__debug__" : Str)) = false := by decide) (he : starEach (e :: es) X.env = (false, eval e X.env) :: starEach es X.env := by rfl) (hpl : (backTo pos (starEach es X.env)).any (·.1) = false := by rfl) :
    PE X (.Call (.Name x p) (e :: es) [] pos) (tCall sp [] E t) := by
  obtain ⟨⟨fd, F, b, _⟩, kp⟩ := G
  exact pe_call F hr hg hm kp b .nil hx ha hdb he hpl
theorem kc0 (G : DefOk X.prog X.w X.K X.mg X.base k (x, none) ps sp) (hm : X.mg x = some (.ref (He.ga X.K x))) (hr : Room k X.A) (hx : Passes (L2.CX X.prog X.w) X E) (hg : Gl X x := by rfl)
    (hdb : (x == ("__debug__" : Str)) = false := by decide) :
    PE X (.Call (.Name x p) [] [] pos) (tCall sp [] E tNil) := by
  obtain ⟨⟨fd, F, b, _⟩, kp⟩ := G
  exact pe_call0 F hr hg hm kp b .nil hx hdb
/-- a new instance of the class x by its own __init__ -/
theorem kmk {ik : Str} (M : Mk X.K (He.ga X.K x) (He.ma X.K (He.ga X.K x) "__init__")) (G : DefOk X.prog X.w X.K X.mg X.base k (x, some "__init__") ps sp) (hm : X.mg x = some (.ref (He.ga X.K x))) (hr : Room (k + 1) X.A) (hx : Passes (L2.CX X.prog X.w) X E)
    (ha : PA X (e :: es) t) (hg : Gl X x := by rfl) (hdb : (x == ("__debug__" : Str)) = false := by decide)
    (he : starEach (e :: es) X.env = (false, eval e X.env) :: starEach es X.env := by rfl) (hpl : (backTo pos (starEach es X.env)).any (·.1) = false := by rfl) :
    PE X (.Call (.Name x p) (e :: es) [] pos) (tMake (He.ga X.K x) sp [] E t) := by
  obtain ⟨⟨fd, F, b, _⟩, kp⟩ := G
  exact pe_make M F hr hg hm b .nil hx ha hdb he hpl
end
/-- the ways of a method: the classes that have it, each with its promise -/
structure Way (P : Program) (w : World) (K : PySem.W.Frag) (mg : Str → Option Value) (base : Heap) (k : Nat) (m : Str) (C : Addr) (sp : Sp) : Prop where
  c : Cls K C
  ex : ∃ f fd ps, Meth K C m f ∧ FnOk P w K mg base (L2.CX P w) k f fd ps sp ∧ Binds K fd ps []
def tMethA (cs : Addr → Sp → Prop) (m : Str) (E : XK) (ta : TE) (t : TA) : TE := fun σ H Q => ta σ H fun x H1 => ∃ a C dx fs sp, x = .ref a ∧ H1 a = some (.ins C dx fs) ∧ cs C sp ∧ fs.lookup m = none ∧ t σ H1 fun vs H2 => sp (x :: vs) H2 Q E
section
variable {X : Cx} {x m : Str} {e o : Expr} {es : List Expr} {t : TA} {p pos apos : Pos} {k : Nat} {E : XK} {ta : TE} {cs : Addr → Sp → Prop}
theorem kme {pl : Sem Bool} (he : PE X o ta) (hw : ∀ C sp, cs C sp → Way X.prog X.w X.K X.mg X.base k m C sp) (hr : Room k X.A) (hx : Passes (L2.CX X.prog X.w) X E) (ha : PA X (e :: es) t)
    (hst : starEach (e :: es) X.env = (false, eval e X.env) :: starEach es X.env := by rfl) (hpl : (backTo pos (starEach es X.env)).any (·.1) = false := by rfl)
    (ht : eval (.Call (.Attribute o m apos) (e :: es) [] pos) X.env = (eval o X.env >>= fun ov => standAt apos.atName >>= fun _ => holding [ov] (getMethod ov m pl) >>= fun z => callWith pos z.1 z.2 (backTo pos (starEach (e :: es) X.env)) (backToKw pos (keywordEach [] X.env))) := by rfl) :
    PE X (.Call (.Attribute o m apos) (e :: es) [] pos) (tMethA cs m E ta t) := by
  refine ⟨fun pins s σ H Q I h => ?_⟩
  refine PySem.W.methodCall_KW (pl := pl) (thn (he.run pins s σ H _ I h) fun u s1 ⟨x, H1, I1, rx, a, C, dx, fs, sp, ex, ea, hc, l, q⟩ => ?_) ht
  obtain ⟨c, f, fd, ps, hm, F, hb⟩ := hw C sp hc
  subst ex
  obtain rfl : u = Value.ref a := rx
  refine getmeth_ok I1 ea c hm l ?_
  refine PySem.W.callWith_K (first := [.ref a]) (h₀ := X.base) I.ok.mod.kin hm.kp (thn (ha.run pos pins s1 σ H1 _ I1 q) fun us s2 ⟨vs, H2, I2, r, q2⟩ => ⟨I2.kIn, ?_⟩) hst hpl
  exact run_fn (us := .ref a :: us) (vs := .ref a :: vs) (dvs := []) (ds := []) F hr hb .nil hx I2 (.cons rfl r) (by simpa using q2)
theorem kme0 {pl : Sem Bool} (he : PE X o ta) (hw : ∀ C sp, cs C sp → Way X.prog X.w X.K X.mg X.base k m C sp) (hr : Room k X.A) (hx : Passes (L2.CX X.prog X.w) X E)
    (ht : eval (.Call (.Attribute o m apos) [] [] pos) X.env = (eval o X.env >>= fun ov => standAt apos.atName >>= fun _ => holding [ov] (getMethod ov m pl) >>= fun z => callWith pos z.1 z.2 (backTo pos (starEach [] X.env)) (backToKw pos (keywordEach [] X.env))) := by rfl) :
    PE X (.Call (.Attribute o m apos) [] [] pos) (tMethA cs m E ta tNil) := by
  refine ⟨fun pins s σ H Q I h => ?_⟩
  refine PySem.W.methodCall_KW (pl := pl) (thn (he.run pins s σ H _ I h) fun u s1 ⟨x, H1, I1, rx, a, C, dx, fs, sp, ex, ea, hc, l, q⟩ => ?_) ht
  obtain ⟨c, f, fd, ps, hm, F, hb⟩ := hw C sp hc
  subst ex
  obtain rfl : u = Value.ref a := rx
  refine getmeth_ok I1 ea c hm l ?_
  exact PySem.W.callWith_K0 (first := [.ref a]) I1.kIn hm.kp (run_fn (us := [.ref a]) (vs := [.ref a]) (dvs := []) (ds := []) F hr hb .nil hx I1 (.cons rfl .nil) q)
end

/-! ## either of two rules -/
section
variable {X : Cx}
theorem pe_or {e : Expr} {t1 t2 : TE} (h1 : PE X e t1) (h2 : PE X e t2) : PE X e (fun σ H Q => t1 σ H Q ∨ t2 σ H Q) :=
  ⟨fun pins s σ H Q I h => h.elim (h1.run pins s σ H Q I) (h2.run pins s σ H Q I)⟩
theorem pi_or {tg e : Expr} {t1 t2 : TI} (h1 : PI X tg e t1) (h2 : PI X tg e t2) : PI X tg e (fun σ H R => t1 σ H R ∨ t2 σ H R) := by
  refine ⟨fun pins s σ H R I h => ?_⟩
  rcases h with h | h
  · exact h1.run pins s σ H R I h
  · exact h2.run pins s σ H R I h
theorem opr_or {f : Value → Value → Sem Value} {r1 r2 : R2} (h1 : OpR X f r1) (h2 : OpR X f r2) : OpR X f (fun x y H Q => r1 x y H Q ∨ r2 x y H Q) := by
  intro pins s σ H x y v u Q I rx ry h
  rcases h with h | h
  · exact h1 pins s σ H x y v u Q I rx ry h
  · exact h2 pins s σ H x y v u Q I rx ry h
/-! ## operations whatever the kinds -/
def rAddI : R2 := rI0 fun i j => .int (i + j)
def rAddS : R2 := fun x y H Q => ∃ i j, x = .str i ∧ y = .str j ∧ i.length + j.length ≤ sizeLine ∧ Q (.str (i ++ j)) H
def rAddX : R2 := fun x y H Q => rAddI x y H Q ∨ rAddS x y H Q ∨ rCat x y H Q
theorem kAdd : OpR X (binaryOp .Add) rAddX := opr_or op_add (opr_or op_add_str op_cat)
def rSubI : R2 := rI0 fun i j => .int (i - j)
theorem kSub : OpR X (binaryOp .Sub) rSubI := op_sub
def rMulI : R2 := rI CMul fun i j => .int (i * j)
def rMulX : R2 := fun x y H Q => rMulI x y H Q ∨ rI CMulW (fun i j => .int (i * j)) x y H Q ∨ rRep x y H Q
theorem kMul : OpR X (binaryOp .Mult) rMulX := opr_or op_mul (opr_or op_mulW op_rep)
def rDivX : R2 := rI CDivW fun i j => .int (i / j)
theorem kDiv : OpR X (binaryOp .FloorDiv) rDivX := op_fdivW
def rModX : R2 := rI (fun _ j => j ≠ 0) fun i j => .int (i.fmod j)
theorem kMod : OpR X (binaryOp .Mod) rModX := op_modN
def rPowX : R2 := rI CPow fun i j => .int (i ^ j.toNat)
theorem kPow : OpR X (binaryOp .Pow) rPowX := op_pow
def rLtI : R2 := rI0 fun i j => .bl (decide (i < j))
def rLeI : R2 := rI0 fun i j => .bl (decide (i ≤ j))
def rGtI : R2 := rI0 fun i j => .bl (decide (j < i))
def rGeI : R2 := rI0 fun i j => .bl (decide (j ≤ i))
theorem kLt : OpR X (compareOp .Lt) rLtI := op_lt
theorem kLe : OpR X (compareOp .LtE) rLeI := op_le
theorem kGt : OpR X (compareOp .Gt) rGtI := op_gt
theorem kGe : OpR X (compareOp .GtE) rGeI := op_ge
def rEqX (K : PySem.W.Frag) : R2 := fun x y H Q => rEq x y H Q ∨ rEqD K x y H Q
def rNeX (K : PySem.W.Frag) : R2 := fun x y H Q => rNe x y H Q ∨ rNeD K x y H Q
theorem kEq {k : Nat} (hr : Room k X.A) : OpR X (compareOp .Eq) (rEqX X.K) := opr_or op_eq (op_eqD hr.units)
theorem kNe {k : Nat} (hr : Room k X.A) : OpR X (compareOp .NotEq) (rNeX X.K) := opr_or op_ne (op_neD hr.units)
def rInS : R2 := fun x y H Q => ∃ i j, x = .str i ∧ y = .str j ∧ Q (.bl (!(Builtin.Str.occurrences j i 0 j.length 1).isEmpty)) H
def rNotInS : R2 := fun x y H Q => ∃ i j, x = .str i ∧ y = .str j ∧ Q (.bl (!(!(Builtin.Str.occurrences j i 0 j.length 1).isEmpty))) H
def rInX (K : PySem.W.Frag) : R2 := fun x y H Q => rIn K false x y H Q ∨ rInS x y H Q ∨ rInD K x y H Q
def rNotInX (K : PySem.W.Frag) : R2 := fun x y H Q => rIn K true x y H Q ∨ rNotInS x y H Q ∨ rNotInD K x y H Q
theorem units65 {k : Nat} {A : Around} (hr : Room k A) : A.units + 65 < cLine := Nat.lt_of_le_of_lt (by omega) hr.un
theorem kIn {k : Nat} (hr : Room k X.A) : OpR X (compareOp .In) (rInX X.K) := opr_or op_in_seq (opr_or op_in_str (op_inD (units65 hr)))
theorem kNotIn {k : Nat} (hr : Room k X.A) : OpR X (compareOp .NotIn) (rNotInX X.K) := opr_or op_notIn_seq (opr_or op_notin_str (op_notInD (units65 hr)))
def rSetX : TSet := fun o i v H Q => rSetL o i v H Q ∨ rSetD o i v H Q
theorem kSet {k : Nat} (hr : Room k X.A) : PSet X rSetX := by
  intro pins s σ H o i v ov iv u Q I ro ri rv h
  rcases h with h | h
  · exact set_list pins s σ H o i v ov iv u Q I ro ri rv h
  · exact set_dict (hu_of hr) pins s σ H o i v ov iv u Q I ro ri rv h
def rIsX : R2 := fun x y H Q => y = .non ∧ Q (.bl (decide (x = .non))) H
def rIsNotX : R2 := fun x y H Q => y = .non ∧ Q (.bl (!decide (x = .non))) H
theorem kIs : OpR X (compareOp .Is) rIsX := op_isN
theorem kIsNot : OpR X (compareOp .IsNot) rIsNotX := op_notN
def rLenX (K : PySem.W.Frag) : List V → Hp → VK → Prop := fun xs H Q => ∃ x n, xs = [x] ∧ LenV K x H n ∧ Q (.int n) H
theorem kLen : CallR X (.builtin "len") (rLenX X.K) := call_len
def rInt1 : List V → Hp → VK → Prop := fun xs H Q => (∃ i, xs = [.int i] ∧ Q (.int i) H) ∨ ∃ k, xs = [.bl k] ∧ Q (.int (if k then 1 else 0)) H
theorem kInt1 : CallR X (.type "int") rInt1 := call_int1
def rListOf (K : PySem.W.Frag) : List V → Hp → VK → Prop := fun xs H Q => ∃ p ys, xs = [.ref p] ∧ (SqL K H p ys ∨ SqT K H p ys) ∧ ∀ l, H l = none → Q (.ref l) (upd H l (.lst ys))
theorem kListOf : CallR X (.type "list") (rListOf X.K) := call_list_of
def rStrip : V → List V → Hp → VK → Prop := fun x xs H Q => ∃ a b, x = .str a ∧ xs = [.str b] ∧ a.length ≤ sizeLine ∧ Q (.str (Txt.stripChars a b)) H
theorem kStrip : MtR X "str.strip" rStrip := mt_stripChars
def rJoin (K : PySem.W.Frag) : V → List V → Hp → VK → Prop := fun x xs H Q => ∃ a p, ∃ ys : List Str, x = .str a ∧ xs = [.ref p] ∧ (SqL K H p (ys.map V.str) ∨ SqT K H p (ys.map V.str)) ∧ (ys.map (·.length)).sum + ys.length * a.length ≤ 16777216 ∧ Q (.str (Txt.join a ys)) H
theorem kJoin : MtR X "str.join" (rJoin X.K) := mt_join
end
/-! ## bodies -/
section
variable {w : World} {P : Program} {mg : Str → Option Value} {K : PySem.W.Frag} {base : Heap}
theorem pB {N : List Str} {qual : Str} {scope : Scope} {f : Addr} {cd : Value} {A : Around} {outer : List Env} {s : Shared} {H : Hp} {E : XK} :
    Passes (L2.CX P w) (cxOf (L2.CX P w) P w K mg base N qual scope f cd A outer s H E) E :=
  passes_call (X := cxOf (L2.CX P w) P w K mg base N qual scope f cd A outer s H E) (W := fun cls d _ H => E cls d H) (takes_of rfl rfl rfl rfl) fun _ _ _ _ h => h
theorem mkOk {x qual : Str} {q : Str × Option Str} {params : Arguments} {body : List Stmt} {scope : Scope} {N ps : List Str} {k : Nat} {sp : Sp}
    (h : ∃ fd, FunD K x qual params body scope [] [] (He.fAd K q) fd) (S : FnScope N ps scope) (len : ∀ vs H Q E, sp vs H Q E → vs.length = ps.length)
    (b : ∀ (kV doc pm : Value) (an : Option Addr) (cdv ct : Value) (us : List Value), us.length = ps.length → bindArgs (PySem.W.fnOf x qual params body scope .none kV doc pm an cdv ct) ⟨us, []⟩ = pure (ps.zip us))
    (hbody : ∀ (cdv : Value) (A : Around) (outer : List Env) (s : Shared) (H : Hp) (vs : List V) (Q : VK) (E : XK), Room k (A.deeper (envOfC qual scope s.heap.objs.size (He.fAd K q) cdv)) → sp vs H Q E →
      ∃ t, PSs (cxOf (L2.CX P w) P w K mg base N qual scope (He.fAd K q) cdv A outer s H E) body t ∧ t { nx := fun _ H' => Q .non H', rt := Q } (start N vs) H) :
    DefOk P w K mg base (k + 1) q ps sp := by
  obtain ⟨fd, F⟩ := h
  obtain ⟨oc, od, dV, kV, doc, pm, an, cdv, ct, osl, _, lk, _⟩ := id F.ex
  exact ⟨⟨fd, F.ok S len hbody, F.bindsN b, oc, od, osl, lk⟩, F.kp⟩
end
end Kn

set_option Elab.async false
set_option linter.all false
set_option maxRecDepth 100000
set_option maxHeartbeats 2000000
namespace Kn
open PySem PySem.Spec PyProof.Rows L2
/-! ## names of the module -/
section
variable {X : Cx} {x : Str} {pos : Pos}
theorem kgI {i : Int} (h : ∃ t, X.mg x = some (.int i t)) (hg : Gl X x := by rfl) (hd : (x == ("__debug__" : Str)) = false := by decide) : PE X (.Name x pos) (tC (.int i)) := by
  obtain ⟨t, h⟩ := h
  exact pe_glob hg h ⟨t, rfl⟩ hd
theorem kgS {z : Str} (h : ∃ t, X.mg x = some (.str z t)) (hg : Gl X x := by rfl) (hd : (x == ("__debug__" : Str)) = false := by decide) : PE X (.Name x pos) (tC (.str z)) := by
  obtain ⟨t, h⟩ := h
  exact pe_glob hg h ⟨t, rfl⟩ hd
theorem kgR {a : Addr} (h : X.mg x = some (.ref a)) (hg : Gl X x := by rfl) (hd : (x == ("__debug__" : Str)) = false := by decide) : PE X (.Name x pos) (tC (.ref a)) := pe_glob hg h rfl hd
theorem kbT {n : String} (hm : X.mg x = none) (hv : bootBuiltins x = some (.type n)) (hg : Gl X x := by rfl) (hn : x ≠ "__name__" := by decide) (hd : (x == ("__debug__" : Str)) = false := by decide) : PE X (.Name x pos) (tC (.ty n)) :=
  pe_bltn hg hm hv rfl hn hd
/-! ## targets, slices -/
theorem pg_or {e : Expr} {t1 t2 : TG} (h1 : PG X e t1) (h2 : PG X e t2) : PG X e (fun v σ H Q => t1 v σ H Q ∨ t2 v σ H Q) := by
  refine ⟨fun pins s σ H v u Q I r h => ?_⟩
  rcases h with h | h
  · exact h1.run pins s σ H v u Q I r h
  · exact h2.run pins s σ H v u Q I r h
def gSeq (K : PySem.W.Frag) (n : Nat) (t : TGs) : TG := fun v σ H Q => gTup K n t v σ H Q ∨ gLst K n t v σ H Q
theorem kgTup {es : List Expr} {k : Nat} {t : TGs} {n : Nat} (hc : X.calm = true) (h : PGs X es t) (hn : (assignEach es X.env).length = n := by rfl) (hst : (assignEach es X.env).findIdx? (·.1) = none := by rfl) :
    PG X (.Tuple es k pos) (gSeq X.K n t) := pg_or (pg_tup hc h hn hst) (pg_lst hc h hn hst)
def rSlX (K : PySem.W.Frag) : V → Option Int → Option Int → Hp → VK → Prop := fun x lo hi H Q => rSlL K x lo hi H Q ∨ rSlS x lo hi H Q
theorem kSl : SlR X (rSlX X.K) := SlR.or sl_list sl_str
end
/-! ## the same, K told -/
section
variable {X : Cx}
theorem eqK (K : PySem.W.Frag) (h : X.K = K) {k : Nat} (hr : Room k X.A) : OpR X (compareOp .Eq) (rEqX K) := h ▸ kEq hr
theorem neK (K : PySem.W.Frag) (h : X.K = K) {k : Nat} (hr : Room k X.A) : OpR X (compareOp .NotEq) (rNeX K) := h ▸ kNe hr
theorem inK (K : PySem.W.Frag) (h : X.K = K) {k : Nat} (hr : Room k X.A) : OpR X (compareOp .In) (rInX K) := h ▸ kIn hr
theorem niK (K : PySem.W.Frag) (h : X.K = K) {k : Nat} (hr : Room k X.A) : OpR X (compareOp .NotIn) (rNotInX K) := h ▸ kNotIn hr
theorem ixK (K : PySem.W.Frag) (h : X.K = K) : IxR X (rIx K) := h ▸ ix_seq
theorem slK (K : PySem.W.Frag) (h : X.K = K) : SlR X (rSlX K) := h ▸ kSl
theorem lenK (K : PySem.W.Frag) (h : X.K = K) : CallR X (.builtin "len") (rLenX K) := h ▸ kLen
theorem isiK (K : PySem.W.Frag) (h : X.K = K) : CallR X (.builtin "isinstance") (rIsi K) := h ▸ call_isi
theorem isiTK (K : PySem.W.Frag) (h : X.K = K) : CallR X (.builtin "isinstance") (rIsiT K) := h ▸ call_isiT
theorem listK (K : PySem.W.Frag) (h : X.K = K) : CallR X (.type "list") (rListOf K) := h ▸ kListOf
theorem allK (K : PySem.W.Frag) (h : X.K = K) (hc : X.calm = true) : CallR X (.builtin "all") (rAll K) := h ▸ cr_all hc
theorem joinK (K : PySem.W.Frag) (h : X.K = K) : MtR X "str.join" (rJoin K) := h ▸ kJoin
def rDictP (K : PySem.W.Frag) : List V → Hp → VK → Prop := fun xs H Q => ∃ (a : Addr) (ps : List Addr) (kvs : List (Key × V)), xs = [.ref a] ∧ SqL K H a (ps.map V.ref) ∧ Paired (fun p kv => SqT K H p [kV kv.1, kv.2]) ps kvs ∧ ∀ p, H p = none → Q (.ref p) (upd H p (.dK (mergeK [] kvs)))
def rDictD : List V → Hp → VK → Prop := fun xs H Q => ∃ (a : Addr) (kvs : List (Key × V)), xs = [.ref a] ∧ Rd H a (.dK kvs) ∧ ∀ p, H p = none → Q (.ref p) (upd H p (.dK kvs))
def rDictX (K : PySem.W.Frag) : List V → Hp → VK → Prop := fun xs H Q => rDictP K xs H Q ∨ rDictD xs H Q
theorem dictK (K : PySem.W.Frag) (h : X.K = K) (hc : X.calm = true) : CallR X (.type "dict") (rDictX K) := h ▸ CallR.or (call_dictP hc) call_dictD
theorem plK (K : PySem.W.Frag) (h : X.K = K) {tg l : Expr} {tl : TE} (hl : PE X l tl) : PI X tg l (iList K tl) := h ▸ pi_list hl
theorem ptK (K : PySem.W.Frag) (h : X.K = K) {tg l : Expr} {tl : TE} (hl : PE X l tl) : PI X tg l (iTup K tl) := h ▸ pi_tup hl
def iSeq (K : PySem.W.Frag) (tl : TE) : TI := fun σ H R => iList K tl σ H R ∨ iTup K tl σ H R
theorem psqK (K : PySem.W.Frag) (h : X.K = K) {tg l : Expr} {tl : TE} (hl : PE X l tl) : PI X tg l (iSeq K tl) := pi_or (plK K h hl) (ptK K h hl)
theorem fldK (K : PySem.W.Frag) (h : X.K = K) {e : Expr} {f : Str} {pos : Pos} {ta : TE} (ha : PE X e ta) (hb : attributeBase e f X.env (eval e X.env) = eval e X.env) : PE X (.Attribute e f pos) (tFld K ta f) := h ▸ pe_fld ha hb
theorem psfK (K : PySem.W.Frag) (h : X.K = K) {o value : Expr} {f : Str} {pos pos' : Pos} {ta tv : TE} (ha : PE X o ta) (hv : PE X value tv) (hs : swapsWith value (some (.Attribute o f pos')) pos.line X.env = pure false) : PS X (.Assign [.Attribute o f pos'] value pos) (sFld K ta tv f) := h ▸ ps_fld ha hv hs
theorem gtK (K : PySem.W.Frag) (h : X.K = K) {es : List Expr} {k : Nat} {t : TGs} {n : Nat} {pos : Pos} (hc : X.calm = true) (hp : PGs X es t) (hn : (assignEach es X.env).length = n := by rfl) (hst : (assignEach es X.env).findIdx? (·.1) = none := by rfl) :
    PG X (.Tuple es k pos) (gSeq K n t) := h ▸ kgTup hc hp hn hst
theorem revK (K : PySem.W.Frag) (h : X.K = K) {e : Expr} {te : TE} {k : Nat} {p1 p2 p3 pos : Pos} (he : PE X e te) : PE X (.Subscript e (.Slice none none (some (.UnaryOp .USub (.Constant (.int 1) k p1) p2)) p3) pos) (tRevL K te) := h ▸ pe_revL he
theorem bmK (K : PySem.W.Frag) (h : X.K = K) {T id : String} {nm : Str} {o e : Expr} {es : List Expr} {r : V → List V → Hp → VK → Prop} {to : TE} {t : TA} {apos cpos : Pos} (pa : PlainAttrs T) (slot : Slot T nm id) (hty : typeOf (.builtin id) = pure (.type "method_descriptor")) (hm : MtR X id r) (ho : PE X o to) (ha : PA X (e :: es) t)
    (hbase : attributeBase o nm X.env (eval o X.env) = eval o X.env := by rfl)
    (hfew : ((backTo cpos (starEach (e :: es) X.env)).all (fun x => !x.1) && (backToKw cpos (keywordEach [] X.env)).all (fun x => x.1.isSome)
      && decide ((e :: es).length + ([] : List Keyword).length + (if ([] : List Keyword).isEmpty then 0 else 1) < 30)) = true := by rfl)
    (hline : (apos.endLine == cpos.line) = true := by rfl) (hs : starEach (e :: es) X.env = (false, eval e X.env) :: starEach es X.env := by rfl) (hplain : (backTo cpos (starEach es X.env)).any (·.1) = false := by rfl) :
    PE X (.Call (.Attribute o nm apos) (e :: es) [] cpos) (tBM K T r to t) := h ▸ pe_bm pa slot hty hm ho ha hbase hfew hline hs hplain
theorem bm0K (K : PySem.W.Frag) (h : X.K = K) {T id : String} {nm : Str} {o : Expr} {r : V → List V → Hp → VK → Prop} {to : TE} {apos cpos : Pos} (pa : PlainAttrs T) (slot : Slot T nm id) (hty : typeOf (.builtin id) = pure (.type "method_descriptor")) (hm : MtR X id r) (ho : PE X o to)
    (hbase : attributeBase o nm X.env (eval o X.env) = eval o X.env := by rfl) (hline : (apos.endLine == cpos.line) = true := by rfl) : PE X (.Call (.Attribute o nm apos) [] [] cpos) (tBM0 K T r to) := h ▸ pe_bm0 pa slot hty hm ho hbase hline
end
/-! ## a written dict: keys that are texts -/
structure KTab (K : PySem.W.Frag) (w : World) (d : Addr) (tab : List (Str × V)) : Prop where
  ex : ∃ es n, KDict K w d es n ∧ Paired (fun (p : Str × V) (e : DictEntry) => (∃ t, e.key = .str p.1 t) ∧ RelV p.2 e.val) tab es.toList
theorem ktab_find {k : Str} : ∀ {tab : List (Str × V)} {l : List DictEntry}, Paired (fun (p : Str × V) (e : DictEntry) => (∃ t, e.key = .str p.1 t) ∧ RelV p.2 e.val) tab l →
    RelO (tab.lookup k) ((l.find? fun e => Value.isStrOf k e.key).map (·.val))
  | _, _, .nil => trivial
  | (x, v) :: r, e :: l, .cons ⟨⟨t, h1⟩, h2⟩ hr => by
    have ih := ktab_find (k := k) hr
    rw [List.lookup_cons, List.find?_cons, h1]
    by_cases hk : k = x
    · subst hk
      have e1 : (k == k) = true := by simp
      have e2 : Value.isStrOf k (.str k t) = true := by simp [Value.isStrOf]
      rw [e1, e2]
      exact h2
    · have e1 : (k == x) = false := by simpa using hk
      have e2 : Value.isStrOf k (.str x t) = false := by
        have : ¬ x = k := fun z => hk z.symm
        simp [Value.isStrOf, this]
      rw [e1, e2]
      exact ih
def tKGet (d : Addr) (tab : List (Str × V)) (td ty tx : TE) : TE := fun σ H Q => td σ H fun x H1 => x = .ref d ∧ ty σ H1 fun y H2 => tx σ H2 fun z H3 => ∃ k, y = .str k ∧ Q ((tab.lookup k).getD z) H3
section
variable {X : Cx} {o e f : Expr} {apos cpos : Pos} {td ty tx : TE} {d : Addr} {tab : List (Str × V)}
theorem kKGet (T : KTab X.K X.w d tab) (ho : PE X o td) (he : PE X e ty) (hf : PE X f tx) (m : M2 X o "get" apos e f cpos := by exact ⟨rfl, rfl, rfl, rfl⟩) : PE X (.Call (.Attribute o "get" apos) [e, f] [] cpos) (tKGet d tab td ty tx) := by
  refine ⟨fun pins s σ H Q I h => ?_⟩
  refine wpAny_Call_method m.base m.few m.line PySem.F.plainAttrs_dict PySem.F.slot_dict_get PySem.F.type_dict_get (thn (ho.run pins s σ H _ I h) fun u s1 ⟨x, H1, I1, rx, ex, q1⟩ => ?_)
  subst ex
  obtain rfl : u = Value.ref d := rx
  obtain ⟨es, n, D, pr⟩ := T.ex
  have mp : ∀ {s' : Shared}, X.K.In s'.heap → s'.heap.MapOf (strKind X.prog X.w) d (fun k => findBy Value.isStrOf es k) := fun kin => PySem.W.mapOf_K (prog := X.prog) (w := X.w) kin D.at_ D.lit
  refine ⟨(mp I1.kIn).typeIs, fun b q => ?_, ?_⟩
  · cases q
    exact ⟨_, I1.kIn _ _ D.at_, rfl⟩
  rw [m.trees]
  refine Calls.callWith_builtin rfl (Calls.evalArgs_plain (Calls.spliced_cons (thn (he.run pins s1 σ H1 _ I1 q1) fun iv s2 ⟨y, H2, I2, ry, q2⟩ =>
    Calls.spliced_cons (thn (hf.run pins s2 σ H2 _ I2 q2) fun fv s3 ⟨z, H3, I3, rz, k, ey, q3⟩ => Calls.spliced_nil ?_))))
  subst ey
  obtain ⟨t, rfl⟩ := ry
  refine call_meetsIn PySem.F.slot_dict_get (mp I3.kIn).typeIs PySem.F.entry_dict_get (PySem.F.args_dict_get_3 _ _ _) (meets_dict_get_default (strKind X.prog X.w) d (PySem.strKind_is X.prog X.w k t) D.low fv) ⟨_, mp I3.kIn, ?_⟩
  refine ⟨(tab.lookup k).getD z, H3, I3.tok _, ?_, q3⟩
  have rel := ktab_find (k := k) pr
  have e1 : findBy Value.isStrOf es k = (es.toList.find? fun e => Value.isStrOf k e.key).map (·.val) := by
    obtain ⟨l⟩ := es
    simp [findBy]
  rw [e1]
  cases h1 : tab.lookup k with
  | none =>
    rw [h1] at rel
    cases h2 : (es.toList.find? fun e => Value.isStrOf k e.key).map (·.val) with
    | none => exact rz
    | some u => rw [h2] at rel; exact rel.elim
  | some v =>
    rw [h1] at rel
    cases h2 : (es.toList.find? fun e => Value.isStrOf k e.key).map (·.val) with
    | none => rw [h2] at rel; exact rel.elim
    | some u => rw [h2] at rel; exact rel
end
/-! ## what the head tells -/
def tabB (K : PySem.W.Frag) (a : Addr) (tab : List (Str × V)) : Bool := match K.lookup a with
  | some ⟨_, _, .dict es _, _⟩ => go tab es.toList
  | _ => false
where go : List (Str × V) → List DictEntry → Bool
  | [], [] => true
  | p :: r, e :: l => (match e.key with | .str x _ => decide (x = p.1) | _ => false) && He.relB p.2 e.val && go r l
  | _, _ => false
theorem tabB_go : ∀ {tab : List (Str × V)} {l : List DictEntry}, tabB.go tab l = true → Paired (fun (p : Str × V) (e : DictEntry) => (∃ t, e.key = .str p.1 t) ∧ RelV p.2 e.val) tab l
  | [], [], _ => .nil
  | [], _ :: _, h => by cases h
  | _ :: _, [], h => by cases h
  | p :: r, e :: l, h => by
    have h' : (((match e.key with | .str x _ => decide (x = p.1) | _ => false) && He.relB p.2 e.val) && tabB.go r l) = true := h
    obtain ⟨h1, h2⟩ := He.ba h'
    obtain ⟨h3, h4⟩ := He.ba h1
    refine .cons ⟨?_, He.relB_ok h4⟩ (tabB_go h2)
    split at h3
    · rename_i x t q
      exact ⟨t, by rw [q, of_decide_eq_true h3]⟩
    · cases h3
theorem tabB_ok {K : PySem.W.Frag} {w : World} {a : Addr} {tab : List (Str × V)} (h : tabB K a tab = true) (D : ∃ es n, KDict K w a es n) : KTab K w a tab := by
  obtain ⟨es, n, D⟩ := D
  refine ⟨es, n, D, ?_⟩
  unfold tabB at h
  rw [D.at_] at h
  exact tabB_go h
/-- an instance's class, for isinstance -/
structure InsK (K : PySem.W.Frag) (C : Addr) : Prop where
  ha : PySem.W.findIn K (.ref C) "__class__" = some (some (.builtin "object.__class__"))
  hn : PySem.W.specialIn K (.builtin "object.__class__") "__get__" = some (some (.builtin "getset_descriptor.__get__"))
  htk : PySem.W.takesIn K (.builtin "object.__class__") = some true
  hm : PySem.W.mroIn K C (.type "object") = some true
def insB (K : PySem.W.Frag) (C : Addr) : Bool := He.eqO (PySem.W.findIn K (.ref C) "__class__") (some (some (.builtin "object.__class__"))) && (He.eqO (PySem.W.specialIn K (.builtin "object.__class__") "__get__") (some (some (.builtin "getset_descriptor.__get__"))) && (decide (PySem.W.takesIn K (.builtin "object.__class__") = some true) && decide (PySem.W.mroIn K C (.type "object") = some true)))
theorem insB_ok {K : PySem.W.Frag} {C : Addr} (h : insB K C = true) : InsK K C := by
  obtain ⟨h1, h⟩ := He.ba h
  obtain ⟨h2, h⟩ := He.ba h
  obtain ⟨h3, h4⟩ := He.ba h
  exact ⟨He.eqO_ok h1, He.eqO_ok h2, of_decide_eq_true h3, of_decide_eq_true h4⟩
abbrev AlK : Type := (Bool × List He.FnW) × List (Option (List (Option (Str × Int))))
def obsK (fx : PySem.W.Frag → List Bool) (fn : List He.DefD) (ts : List He.Tab) (K : PySem.W.Frag) : AlK := (((fx K).all id && fn.all fun d => d.ok K, fn.map fun d => He.fnW K d.at_), ts.map fun t => He.dicW K (t.1 K))
def valK (fn : List He.DefD) (ts : List He.Tab) (w : World) : AlK := ((true, fn.map He.DefD.val), ts.map fun t => some (He.keysIn w.params t.2))
def SaysK (fx : PySem.W.Frag → List Bool) (fn : List He.DefD) (ts : List He.Tab) (w : World) (K : PySem.W.Frag) : Prop := obsK fx fn ts K = valK fn ts w
def obsKG (n : Nat) (fx : PySem.W.Frag → List Bool) (fn : List He.DefD) (ts : List He.Tab) (g : Addr → Option Obj) : AlK := obsK fx fn ts (He.frG g (He.asD g n))
def hookK (n : Nat) (fx : PySem.W.Frag → List Bool) (fn : List He.DefD) (ts : List He.Tab) : PySem.W.Hook where
  α := AlK
  obs := fun s => obsKG n fx fn ts s.heap.get?
  val := fun w => valK fn ts w
  says := fun w h => ∃ K : PySem.W.Frag, K.In h ∧ SaysK fx fn ts w K
  of := fun _ _ e => ⟨_, He.frG_in, e⟩
  keeps := fun _ _ _ ⟨K, hK, c⟩ k => ⟨K, PySem.W.Frag.In.keeps hK k, c⟩
theorem obsKG_eq {n : Nat} {fx : PySem.W.Frag → List Bool} {fn : List He.DefD} {ts : List He.Tab} {g : Addr → Option Obj} {s : Shared} (h : ∀ a, g a = s.heap.get? a) : obsKG n fx fn ts g = (hookK n fx fn ts).obs s := by
  have e : g = s.heap.get? := funext h
  rw [e] <;> rfl
section
variable {fx : PySem.W.Frag → List Bool} {fn : List He.DefD} {ts : List He.Tab} {w : World} {K : PySem.W.Frag}
theorem SaysK.fact (c : SaysK fx fn ts w K) (i : Nat) {f : Bool} (h : (fx K)[i]? = some f := by rfl) : f = true := by
  have c1 := (He.ba (show ((fx K).all id && fn.all fun d => d.ok K) = true from congrArg (fun z : AlK => z.1.1) c)).1
  exact List.all_eq_true.mp c1 f (List.mem_of_getElem? h)
theorem SaysK.def_ (c : SaysK fx fn ts w K) (i : Nat) {d : He.DefD} (h : fn[i]? = some d := by rfl) : ∃ fd, FunD K d.name d.qual d.params d.body d.scope (d.dvs K) (d.kws K) (He.fAd K d.at_) fd := by
  have c2 := (He.ba (show ((fx K).all id && fn.all fun d => d.ok K) = true from congrArg (fun z : AlK => z.1.1) c)).2
  have e : fn.map (fun d => He.fnW K d.at_) = fn.map He.DefD.val := congrArg (fun z : AlK => z.1.2) c
  have e2 : (fn.map fun d => He.fnW K d.at_)[i]? = (fn.map He.DefD.val)[i]? := by rw [e]
  rw [List.getElem?_map, List.getElem?_map, h] at e2
  exact He.DefD.funD (Option.some.inj e2) (List.all_eq_true.mp c2 d (List.mem_of_getElem? h))
theorem SaysK.tab (c : SaysK fx fn ts w K) (i : Nat) {t : He.Tab} (h : ts[i]? = some t := by rfl) : ∃ es n, KDict K w (t.1 K) es n := by
  have e : ts.map (fun t => He.dicW K (t.1 K)) = ts.map fun t => some (He.keysIn w.params t.2) := congrArg (fun z : AlK => z.2) c
  have e2 : (ts.map fun t => He.dicW K (t.1 K))[i]? = (ts.map fun t => some (He.keysIn w.params t.2))[i]? := by rw [e]
  rw [List.getElem?_map, List.getElem?_map, h] at e2
  exact He.dicW_ok (Option.some.inj e2)
end
/-! ## the law's end -/
theorem walkK {l : PySem.W.OpenLaw} {n k : Nat} {q : Program} {loose : List Str} {XP : (Str → Option Value) → Heap → Prop} {YP : World → Heap → Prop} {d : DefRec} {x : Str}
    (hn : l.most = some n) (hn2 : n ≤ sizeLine) (hdf : d.params.defaults = []) (hr : Room k callerA)
    (F : ∀ (w : World) (mg : Str → Option Value) (fa : Addr) (h : Heap), YP w h → h.Ns mainGlobals mg → mg d.name = some (.ref fa) →
      ∃ (K : PySem.W.Frag) (fd : FuncData) (sp : Sp), K.In h ∧ (∀ (s : Shared) (u : Value), BindsTo s fd ⟨[u], []⟩ [(x, u)]) ∧
        (∀ (H : Hp) (a : Addr) (ns : List Int), ns.length ≤ n → (∀ z ∈ ns, Builtin.Int.intBits z ≤ 1048576) → Only H → SqL K H a (ns.map V.int) → sp [.ref a] H (fun v _ => v = .bl true) fun _ _ _ => False) ∧
        ∀ base : Heap, K.In base → base.Ns mainGlobals mg → FnOk l.prog w K mg base (L2.CX l.prog w) k fa fd [x] sp) :
    PySem.W.WalkO q loose XP YP l.row.toRowW d [] (fun f vs => PySem.call f vs) := by
  refine Att.attach_callB hn hdf fun w s₀ s₁ mg mb fa o pm cd doc a vs ns G Y ho hd hcd hmg hobj hints hlen hbits hg => ?_
  obtain ⟨K, fd, sp, KX, hb, hsp, hF⟩ := F w mg fa _ Y G.T.g hmg
  refine law_call KX G.T.g G.T.b G.T.builtins G.T.nolimit hg hobj hints (Nat.le_trans hlen hn2) hr hF hb (fun H hO hS => hsp H a ns hlen hbits hO hS) fun H e s' h => ?_
  obtain ⟨_, _, _, _, _, _, _, _, _, _, _, _, z⟩ := h
  exact z.elim
end Kn

set_option Elab.async false
set_option linter.all false
set_option maxRecDepth 100000
set_option maxHeartbeats 2000000
namespace Kn
open PySem PySem.Spec PyProof.Rows L2
/-! ## readings, step by step -/
section
variable {K : PySem.W.Frag} {D : Ends} {σ : L2.St} {H : Hp} {Q : VK} {QB : Bool → Hp → Prop} {QL : List V → Hp → Prop} {te ta tb tc : TE} {tt tu : TT} {tr : TA} {t u : TS} {g : TG} {v x y : V} {i : Nat} {E : XK} {sp : Sp} {vs : List V}
theorem s_seq (h : t { D with nx := u D } σ H) : tSeq t u D σ H := h
theorem s_next (h : D.nx σ H) : tNext D σ H := h
theorem s_asg (h : te σ H fun v H1 => g v σ H1 D.nx) : tAsg te g D σ H := h
theorem s_name {QS : L2.St → Hp → Prop} (h : QS (σ.set i (some v)) H) : gName i v σ H QS := h
theorem s_ret (h : te σ H D.rt) : tRet te D σ H := h
theorem s_drop (h : te σ H fun _ H1 => D.nx σ H1) : tDrop te D σ H := h
theorem s_ifs (h : tt σ H fun b H1 => if b = true then t D σ H1 else u D σ H1) : tIfS tt t u D σ H := h
theorem s_ifE (h : tt σ H fun b H1 => if b = true then ta σ H1 Q else tb σ H1 Q) : tIf tt ta tb σ H Q := h
theorem s_var (h : σ[i]? = some (some v)) (q : Q v H) : tVar i σ H Q := ⟨v, h, q⟩
theorem s_c (q : Q v H) : tC v σ H Q := q
theorem s_cons (h : te σ H fun v H1 => tr σ H1 fun vs H2 => QL (v :: vs) H2) : tCons te tr σ H QL := h
theorem s_nil (q : QL [] H) : tNil σ H QL := q
theorem s_cb {r : List V → Hp → VK → Prop} (h : tr σ H fun vs H1 => r vs H1 Q) : tCB r tr σ H Q := h
theorem s_op {r : R2} (h : ta σ H fun x H1 => tb σ H1 fun y H2 => r x y H2 Q) : tOp r ta tb σ H Q := h
theorem s_un {r : V → Hp → VK → Prop} (h : ta σ H fun x H1 => r x H1 Q) : tUn r ta σ H Q := h
theorem s_call (h : tr σ H fun vs H1 => sp vs H1 Q E) : tCall sp [] E tr σ H Q := by
  have e : (fun (vs : List V) (H1 : Hp) => sp (vs ++ []) H1 Q E) = fun vs H1 => sp vs H1 Q E := by
    funext vs H1
    rw [List.append_nil]
  show tr σ H fun vs H1 => sp (vs ++ []) H1 Q E
  rw [e]
  exact h
theorem s_make {C : Addr} (h : tr σ H fun vs H1 => ∀ x dx, H1 x = none → H1 dx = none → dx ≠ x → sp (.ref x :: vs) (upd (upd H1 dx (.own x)) x (.ins C dx [])) (fun v H2 => v = .non ∧ Q (.ref x) H2) E) : tMake C sp [] E tr σ H Q := by
  have e : (fun (vs : List V) (H1 : Hp) => ∀ x dx, H1 x = none → H1 dx = none → dx ≠ x → sp (.ref x :: (vs ++ [])) (upd (upd H1 dx (.own x)) x (.ins C dx [])) (fun v H2 => v = .non ∧ Q (.ref x) H2) E) = fun vs H1 => ∀ x dx, H1 x = none → H1 dx = none → dx ≠ x → sp (.ref x :: vs) (upd (upd H1 dx (.own x)) x (.ins C dx [])) (fun v H2 => v = .non ∧ Q (.ref x) H2) E := by
    funext vs H1
    rw [List.append_nil]
  show tr σ H fun vs H1 => ∀ x dx, H1 x = none → H1 dx = none → dx ≠ x → sp (.ref x :: (vs ++ [])) (upd (upd H1 dx (.own x)) x (.ins C dx [])) (fun v H2 => v = .non ∧ Q (.ref x) H2) E
  rw [e]
  exact h
theorem s_test (h : te σ H fun x H1 => ∃ k, x = .bl k ∧ QB k H1) : tTest te σ H QB := h
theorem s_tB (h : te σ H fun x H1 => ∃ k, x = .bl k ∧ QB k H1) : tB te σ H QB := h
theorem s_bl {b : Bool} (q : QB b H) : ∃ k, V.bl b = .bl k ∧ QB k H := ⟨b, rfl, q⟩
theorem s_and (h : tt σ H fun c H1 => if c = true then tu σ H1 QB else QB false H1) : tAnd tt tu σ H QB := h
theorem s_or (h : tt σ H fun c H1 => if c = true then QB true H1 else tu σ H1 QB) : tOr tt tu σ H QB := h
theorem s_not (h : tt σ H fun c H1 => QB (!c) H1) : tNot tt σ H QB := h
theorem s_andV (h : ta σ H fun x H1 => ∃ c, x = .bl c ∧ if c = true then tb σ H1 Q else Q (.bl false) H1) : tAndV ta tb σ H Q := h
theorem s_orV (h : ta σ H fun x H1 => ∃ c, x = .bl c ∧ if c = true then Q (.bl true) H1 else tb σ H1 Q) : tOrV ta tb σ H Q := h
theorem s_notV (h : ta σ H fun x H1 => ∃ c, x = .bl c ∧ Q (.bl (!c)) H1) : tNotV ta σ H Q := h
theorem s_tup (h : tr σ H fun xs H1 => xs.length ≤ sizeLine ∧ ∀ p, H1 p = none → Q (.ref p) (upd H1 p (.tup xs))) : tTup tr σ H Q := h
theorem s_lst (h : tr σ H fun xs H1 => xs.length ≤ sizeLine ∧ ∀ p, H1 p = none → Q (.ref p) (upd H1 p (.lst xs))) : tLst tr σ H Q := h
theorem s_chain {r r' : R2} (h : ta σ H fun x H1 => tb σ H1 fun y H2 => r x y H2 fun z H3 => ∃ k, z = .bl k ∧ (if k = true then tc σ H3 fun w' H4 => r' y w' H4 Q else Q (.bl false) H3)) : tChain r r' ta tb tc σ H Q := h
theorem s_bm {T : String} {r : V → List V → Hp → VK → Prop} (h : ta σ H fun x H1 => tyV K T x H1 ∧ tr σ H1 fun xs H2 => r x xs H2 Q) : tBM K T r ta tr σ H Q := h
theorem s_ix0 {r : R2} (h : ta σ H fun x H1 => tb σ H1 fun y H2 => r x y H2 Q) : tOp r ta tb σ H Q := h
theorem s_sub {to ti : TE} {tS : TSet} {QS : L2.St → Hp → Prop} (h : to σ H fun o H1 => ti σ H1 fun i H2 => tS o i v H2 fun H3 => QS σ H3) : gSub to ti tS v σ H QS := h
theorem s_sl {r : V → Option Int → Option Int → Hp → VK → Prop} {tl th : TO} (h : te σ H fun x H1 => tl σ H1 fun l H2 => th σ H2 fun u H3 => r x l u H3 Q) : tSl r te tl th σ H Q := h
theorem s_part {QO : Option Int → Hp → Prop} (h : te σ H fun x H1 => ∃ i, x = .int i ∧ QO (some i) H1) : tPart te σ H QO := h
theorem s_nop {QO : Option Int → Hp → Prop} (h : QO none H) : tNoPart σ H QO := h
theorem s_int {j : Int} {QO : Int → Hp → Prop} (q : QO j H) : ∃ i, V.int j = .int i ∧ QO i H := ⟨j, rfl, q⟩
/-! by values -/
theorem v_addI {i j : Int} (q : Q (.int (i + j)) H) : rAddX (.int i) (.int j) H Q := .inl ⟨i, j, rfl, rfl, q⟩
theorem v_addS {a b : Str} (h : a.length + b.length ≤ sizeLine) (q : Q (.str (a ++ b)) H) : rAddX (.str a) (.str b) H Q := .inr (.inl ⟨a, b, rfl, rfl, h, q⟩)
theorem v_addL {p r : Addr} {xs zs : List V} (h1 : H p = some (.lst xs)) (h2 : H r = some (.lst zs)) (hl : xs.length + zs.length ≤ sizeLine) (q : ∀ o, H o = none → Q (.ref o) (upd H o (.lst (xs ++ zs)))) : rAddX (.ref p) (.ref r) H Q :=
  .inr (.inr ⟨p, r, xs, zs, rfl, rfl, h1, h2, hl, q⟩)
theorem v_subI {i j : Int} (q : Q (.int (i - j)) H) : rSubI (.int i) (.int j) H Q := ⟨i, j, rfl, rfl, q⟩
theorem v_mulI {i j : Int} (h : CMul i j) (q : Q (.int (i * j)) H) : rMulX (.int i) (.int j) H Q := .inl ⟨i, j, rfl, rfl, h, q⟩
theorem v_divI {i j : Int} (h : CDivW i j) (q : Q (.int (i / j)) H) : rDivX (.int i) (.int j) H Q := ⟨i, j, rfl, rfl, h, q⟩
theorem v_modI {i j : Int} (h : j ≠ 0) (q : Q (.int (i.fmod j)) H) : rModX (.int i) (.int j) H Q := ⟨i, j, rfl, rfl, h, q⟩
theorem v_powI {i j : Int} (h : CPow i j) (q : Q (.int (i ^ j.toNat)) H) : rPowX (.int i) (.int j) H Q := ⟨i, j, rfl, rfl, h, q⟩
theorem v_lt {i j : Int} (q : Q (.bl (decide (i < j))) H) : rLtI (.int i) (.int j) H Q := ⟨i, j, rfl, rfl, q⟩
theorem v_le {i j : Int} (q : Q (.bl (decide (i ≤ j))) H) : rLeI (.int i) (.int j) H Q := ⟨i, j, rfl, rfl, q⟩
theorem v_gt {i j : Int} (q : Q (.bl (decide (j < i))) H) : rGtI (.int i) (.int j) H Q := ⟨i, j, rfl, rfl, q⟩
theorem v_ge {i j : Int} (q : Q (.bl (decide (j ≤ i))) H) : rGeI (.int i) (.int j) H Q := ⟨i, j, rfl, rfl, q⟩
theorem v_eqI {i j : Int} (q : Q (.bl (decide (i = j))) H) : rEqX K (.int i) (.int j) H Q := .inl ⟨rfl, by
  have e : decide (V.int i = V.int j) = decide (i = j) := by
    by_cases h : i = j
    · rw [h]; simp
    · have : ¬ V.int i = V.int j := fun z => h (by injection z)
      rw [decide_eq_false h, decide_eq_false this]
  rw [e]; exact q⟩
theorem v_eqS {a b : Str} (q : Q (.bl (decide (a = b))) H) : rEqX K (.str a) (.str b) H Q := .inl ⟨rfl, by
  have e : decide (V.str a = V.str b) = decide (a = b) := by
    by_cases h : a = b
    · rw [h]; simp
    · have : ¬ V.str a = V.str b := fun z => h (by injection z)
      rw [decide_eq_false h, decide_eq_false this]
  rw [e]; exact q⟩
theorem v_neS {a b : Str} (q : Q (.bl (!decide (a = b))) H) : rNeX K (.str a) (.str b) H Q := .inl ⟨rfl, by
  have e : decide (V.str a = V.str b) = decide (a = b) := by
    by_cases h : a = b
    · rw [h]; simp
    · have : ¬ V.str a = V.str b := fun z => h (by injection z)
      rw [decide_eq_false h, decide_eq_false this]
  rw [e]; exact q⟩
theorem v_neI {a b : Int} (q : Q (.bl (!decide (a = b))) H) : rNeX K (.int a) (.int b) H Q := .inl ⟨rfl, by
  have e : decide (V.int a = V.int b) = decide (a = b) := by
    by_cases h : a = b
    · rw [h]; simp
    · have : ¬ V.int a = V.int b := fun z => h (by injection z)
      rw [decide_eq_false h, decide_eq_false this]
  rw [e]; exact q⟩
theorem v_eqD {d e : PyData} (h1 : Dp K H x d) (h2 : Dp K H y e) (s1 : SeqAt.shaped d = true) (s2 : SeqAt.shaped e = true) (q : Q (.bl (PyData.eqv d e)) H) : rEqX K x y H Q := .inr ⟨d, e, h1, h2, s1, s2, q⟩
theorem v_neD {d e : PyData} (h1 : Dp K H x d) (h2 : Dp K H y e) (s1 : SeqAt.shaped d = true) (s2 : SeqAt.shaped e = true) (q : Q (.bl (!PyData.eqv d e)) H) : rNeX K x y H Q := .inr ⟨d, e, h1, h2, s1, s2, q⟩
theorem v_ixL {p : Addr} {xs : List V} {j : Int} (h : SqL K H p xs) (ha : atI xs j = some v) (q : Q v H) : rIx K (.ref p) (.int j) H Q := .inl ⟨p, xs, j, v, rfl, rfl, h, ha, q⟩
theorem v_ixT {p : Addr} {xs : List V} {j : Int} (h : SqT K H p xs) (ha : atI xs j = some v) (q : Q v H) : rIx K (.ref p) (.int j) H Q := .inr (.inl ⟨p, xs, j, v, rfl, rfl, h, ha, q⟩)
theorem v_ixS {z : Str} {j : Int} {c : Nat} (h : z.length ≤ sizeLine) (ha : atI z.cps.toList j = some c) (q : Q (.str ⟨#[c]⟩) H) : rIx K (.str z) (.int j) H Q := .inr (.inr ⟨z, j, c, rfl, rfl, h, ha, q⟩)
theorem v_isi {T : Value} {n : String} {b : Bool} (ht : TyX K H x T) (hk : PySem.W.kitOne K T (.type n) = some b) (q : Q (.bl b) H) : rIsi K [x, .ty n] H Q := ⟨x, .ty n, T, .type n, b, rfl, .ty n, ht, hk, q⟩
theorem v_isC {T : Value} {C : Addr} {b : Bool} (ht : TyX K H x T) (hk : PySem.W.kitOne K T (.ref C) = some b) (q : Q (.bl b) H) : rIsi K [x, .ref C] H Q := ⟨x, .ref C, T, .ref C, b, rfl, .own C, ht, hk, q⟩
theorem v_set {p : Addr} {xs : List V} {k : Int} {j : Nat} {QH : Hp → Prop} (h : H p = some (.lst xs)) (hi : ixN xs.length k = some j) (q : QH (upd H p (.lst (xs.set j v)))) : rSetX (.ref p) (.int k) v H QH := .inl ⟨p, xs, k, j, rfl, rfl, h, hi, q⟩
theorem v_int1b {b : Bool} (q : Q (.int (if b then 1 else 0)) H) : rInt1 [.bl b] H Q := .inr ⟨b, rfl, q⟩
theorem v_lenS {z : Str} (h : z.length ≤ sizeLine) (q : Q (.int z.length) H) : rLenX K [.str z] H Q := ⟨_, _, rfl, ⟨h, rfl⟩, q⟩
theorem v_lenL {p : Addr} {xs : List V} (h : SqL K H p xs) (q : Q (.int xs.length) H) : rLenX K [.ref p] H Q := ⟨_, _, rfl, .inl ⟨xs, h, rfl⟩, q⟩
theorem v_lenT {p : Addr} {xs : List V} (h : SqT K H p xs) (q : Q (.int xs.length) H) : rLenX K [.ref p] H Q := ⟨_, _, rfl, .inr ⟨xs, h, rfl⟩, q⟩
theorem v_listL {p : Addr} {xs : List V} (h : SqL K H p xs) (q : ∀ l, H l = none → Q (.ref l) (upd H l (.lst xs))) : rListOf K [.ref p] H Q := ⟨p, xs, rfl, .inl h, q⟩
theorem v_strip {a b : Str} (h : a.length ≤ sizeLine) (q : Q (.str (Txt.stripChars a b)) H) : rStrip (.str a) [.str b] H Q := ⟨a, b, rfl, rfl, h, q⟩
theorem v_joinL {a : Str} {p : Addr} {ys : List Str} (h : SqL K H p (ys.map V.str)) (hl : (ys.map (·.length)).sum + ys.length * a.length ≤ 16777216) (q : Q (.str (Txt.join a ys)) H) : rJoin K (.str a) [.ref p] H Q := ⟨a, p, ys, rfl, rfl, .inl h, hl, q⟩
theorem v_app {p : Addr} {xs : List V} (h : H p = some (.lst xs)) (hl : xs.length < sizeLine) (q : Q .non (upd H p (.lst (xs ++ [y])))) : rAppend (.ref p) [y] H Q := ⟨p, xs, y, rfl, rfl, h, hl, q⟩
theorem s_kget {d : Addr} {tab : List (Str × V)} (h : ta σ H fun x H1 => x = .ref d ∧ tb σ H1 fun y H2 => tc σ H2 fun z H3 => ∃ k, y = .str k ∧ Q ((tab.lookup k).getD z) H3) : tKGet d tab ta tb tc σ H Q := h
theorem s_lc {wi : TI} {g : TG} {vs : List Nat} (h : wi σ H fun J H1 => ∀ D, H1 D = none → ∃ W : Nat → Nat → Hp → Prop, (∃ m, W 0 m (upd H1 D (.lst []))) ∧ ∀ i m H, W i m H →
  (J.stop i H ∧ Q (.ref D) H) ∨ (J.go i H ∧ ∃ Nx : Hp → Prop, (∀ H', Nx H' → ∃ m', m' < m ∧ W (i + 1) m' H') ∧ ∀ x H', J.yld i H x H' → g x (wipe σ vs) H' fun σ2 H2 => wipe σ2 vs = wipe σ vs ∧ tt σ2 H2 fun b H3 =>
    if b = true then te σ2 H3 fun y H4 => ∃ acc, H4 D = some (.lst acc) ∧ acc.length < sizeLine ∧ Nx (upd H4 D (.lst (acc ++ [y]))) else Nx H3)) : tLc wi g tt te vs σ H Q := h
theorem s_rng1 {R : It → Hp → Prop} (h : tr σ H fun vs H1 => ∃ j : Int, vs = [.int j] ∧ -(2 ^ 62) ≤ j ∧ j < 2 ^ 62 ∧ R (Itr 0 j.toNat) H1) : iRng1 tr σ H R := h
theorem s_ilst {R : It → Hp → Prop} (h : te σ H fun x H1 => ∃ a, x = .ref a ∧ (∃ xs, SqL K H1 a xs) ∧ R (Itl K a) H1) : iList K te σ H R := h
theorem s_isL {R : It → Hp → Prop} (h : te σ H fun x H1 => ∃ a, x = .ref a ∧ (∃ xs, SqL K H1 a xs) ∧ R (Itl K a) H1) : iSeq K te σ H R := .inl h
theorem s_isT {R : It → Hp → Prop} (h : te σ H fun x H1 => ∃ a, x = .ref a ∧ (∃ xs, SqT K H1 a xs) ∧ R (Itt K a) H1) : iSeq K te σ H R := .inr h
theorem s_cut (Mid : L2.St → Hp → Prop) (rest : ∀ σ' H', Mid σ' H' → u D σ' H') (h : ∀ U : L2.St → Hp → Prop, (∀ σ' H', Mid σ' H' → U σ' H') → t { D with nx := U } σ H) : tSeq t u D σ H := h (u D) rest
theorem s_gsL {n : Nat} {tg : TGs} {QS : L2.St → Hp → Prop} {a : Addr} {xs : List V} (h1 : SqL K H a xs) (h2 : xs.length = n) (h : tg xs σ H QS) : gSeq K n tg (.ref a) σ H QS := .inr ⟨a, xs, rfl, h1, h2, h⟩
theorem s_gsT {n : Nat} {tg : TGs} {QS : L2.St → Hp → Prop} {a : Addr} {xs : List V} (h1 : SqT K H a xs) (h2 : xs.length = n) (h : tg xs σ H QS) : gSeq K n tg (.ref a) σ H QS := .inl ⟨a, xs, rfl, h1, h2, h⟩
theorem s_gcons {tg : TGs} {QS : L2.St → Hp → Prop} (h : g v σ H fun σ' H' => tg vs σ' H' QS) : gCons g tg (v :: vs) σ H QS := ⟨v, vs, rfl, h⟩
theorem s_gnil {QS : L2.St → Hp → Prop} (h : QS σ H) : gNil [] σ H QS := ⟨rfl, h⟩
theorem s_meth {cs : Addr → Sp → Prop} {m : Str} (h : ta σ H fun x H1 => ∃ a C dx fs sp, x = .ref a ∧ H1 a = some (.ins C dx fs) ∧ cs C sp ∧ fs.lookup m = none ∧ tr σ H1 fun vs H2 => sp (x :: vs) H2 Q E) : tMethA cs m E ta tr σ H Q := h
theorem s_rev (h : te σ H fun x H1 => ∃ a xs, x = .ref a ∧ SqL K H1 a xs ∧ ∀ p, H1 p = none → Q (.ref p) (upd H1 p (.lst xs.reverse))) : tRevL K te σ H Q := h
theorem v_setD {p : Addr} {kvs : List (Key × V)} {k : Key} {QH : Hp → Prop} (h : H p = some (.dK kvs)) (hl : kvs.length < sizeLine) (q : QH (upd H p (.dK (putK kvs k v)))) : rSetX (.ref p) (kV k) v H QH := .inr ⟨p, _, rfl, .k h hl, q⟩
theorem s_dget (h : ta σ H fun x H1 => tb σ H1 fun y H2 => ∃ a v, x = .ref a ∧ DGet H2 a y (some v) ∧ Q v H2) : tDGet ta tb σ H Q := h
theorem s_dget2 (h : ta σ H fun x H1 => ∃ a, x = .ref a ∧ IsD H1 a ∧ tb σ H1 fun y H2 => tc σ H2 fun z H3 => ∃ o, DGet H3 a y o ∧ Q (o.getD z) H3) : tDGet2 ta tb tc σ H Q := h
theorem s_dnew (h : ∀ p, H p = none → Q (.ref p) (upd H p (.dK []))) : tDNewK σ H Q := h
theorem s_lockE {te : TE} {d : Addr} {u : HO} (h1 : H d = some u) (h2 : Mut (some u)) (h : ∀ od, te σ (upd H d (.frz od u)) fun v H' => H' d = some (.frz od u) ∧ Q v (upd H' d u)) : tLockE te σ H Q := ⟨d, u, h1, h2, h⟩
theorem s_ivals {R : It → Hp → Prop} (h : te σ H fun x H1 => ∃ d o kvs, x = .ref d ∧ H1 d = some (.frz o (.dK kvs)) ∧ R (Itd d o kvs) H1) : iVals te σ H R := h
theorem s_brk (h : D.bk σ H) : tBreak D σ H := h
theorem s_istr {R : It → Hp → Prop} (h : te σ H fun x H1 => ∃ z, x = .str z ∧ R (Its z) H1) : iStr te σ H R := h
theorem s_for {wi : TI} {g : TG} (h : wi σ H fun J H1 => ∃ W : Nat → Nat → L2.St → Hp → Prop, (∃ m, W 0 m σ H1) ∧ ∀ i m σ H, W i m σ H → (J.stop i H ∧ D.nx σ H) ∨ (J.go i H ∧ ∃ N : L2.St → Hp → Prop, (∀ σ' H', N σ' H' → ∃ m', m' < m ∧ W (i + 1) m' σ' H') ∧
    ∀ x H', J.yld i H x H' → g x σ H' fun σ2 H2 => t { D with nx := N, ct := N, bk := D.nx } σ2 H2)) : tFor wi g t D σ H := h
theorem s_yes (q : QB true H) : tYes σ H QB := q
theorem s_wipe {vs : List Nat} {σ2 : L2.St} {P : Prop} (h : wipe σ2 vs = wipe σ vs) (q : P) : wipe σ2 vs = wipe σ vs ∧ P := ⟨h, q⟩
theorem s_fldS {f : Str} (h : tb σ H fun y H1 => ta σ H1 fun x H2 => ∃ a C dx fs, x = .ref a ∧ H2 a = some (.ins C dx fs) ∧ Cls K C ∧ NoAttr K C f ∧ fs.length < 1000 ∧ D.nx σ (upd H2 a (.ins C dx (putF f y fs)))) : sFld K ta tb f D σ H := h
theorem putF_new {f : Str} {y : V} : ∀ {fs : List (Str × V)}, (fs.all fun q => !(q.1 == f)) = true → putF f y fs = fs ++ [(f, y)]
  | [], _ => rfl
  | (g, z) :: r, h => by
    have h2 : (!(g == f) && r.all fun q => !(q.1 == f)) = true := h
    obtain ⟨h3, h4⟩ := He.ba h2
    have hg : ¬ g = f := by
      intro e
      rw [e] at h3
      simp at h3
    show (if g = f then _ else (g, z) :: putF f y r) = _
    rw [if_neg hg, putF_new h4]
    rfl
theorem v_fldS {a C dx : Addr} {fs : List (Str × V)} {f : Str} {P : Hp → Prop} (ho : H a = some (.ins C dx fs)) (hc : Cls K C) (hn : NoAttr K C f) (hl : fs.length < 1000) (hf : (fs.all fun q => !(q.1 == f)) = true) (q : P (upd H a (.ins C dx (fs ++ [(f, y)])))) :
    ∃ a' C' dx' fs', V.ref a = .ref a' ∧ H a' = some (.ins C' dx' fs') ∧ Cls K C' ∧ NoAttr K C' f ∧ fs'.length < 1000 ∧ P (upd H a' (.ins C' dx' (putF f y fs'))) := ⟨a, C, dx, fs, rfl, ho, hc, hn, hl, by rw [putF_new hf]; exact q⟩
theorem s_fld {f : Str} (h : ta σ H fun x H1 => ∃ a C dx fs v, x = .ref a ∧ H1 a = some (.ins C dx fs) ∧ Cls K C ∧ NoAttr K C f ∧ fs.lookup f = some v ∧ Q v H1) : tFld K ta f σ H Q := h
theorem v_fld {a C dx : Addr} {fs : List (Str × V)} {f : Str} {P : V → Prop} (ho : H a = some (.ins C dx fs)) (hc : Cls K C) (hn : NoAttr K C f) (hf : fs.lookup f = some v) (q : P v) :
    ∃ a' C' dx' fs' v', V.ref a = .ref a' ∧ H a' = some (.ins C' dx' fs') ∧ Cls K C' ∧ NoAttr K C' f ∧ fs'.lookup f = some v' ∧ P v' := ⟨a, C, dx, fs, v, rfl, ho, hc, hn, hf, q⟩
end
theorem s_blP {b : Bool} {P : Bool → Prop} (q : P b) : ∃ c, V.bl b = .bl c ∧ P c := ⟨b, rfl, q⟩
theorem s_strP {b : Str} {P : Str → Prop} (q : P b) : ∃ c, V.str b = .str c ∧ P c := ⟨b, rfl, q⟩
theorem TyX.ins {K : PySem.W.Frag} {H : Hp} {a C dx : Addr} {fs : List (Str × V)} (e : H a = some (.ins C dx fs)) (c : Cls K C) (i : InsK K C) : TyX K H (.ref a) (.ref C) := .base (.ins e c i.ha i.hn i.htk i.hm)
theorem s_intP {b : Int} {P : Int → Prop} (q : P b) : ∃ c, V.int b = .int c ∧ P c := ⟨b, rfl, q⟩
theorem ite_not {c : Bool} {A B : Prop} (h : if c = true then B else A) : if (!c) = true then A else B := by cases c <;> simpa using h
theorem itT {p : Prop} [Decidable p] {A B : Prop} (h : p) (q : A) : if decide p = true then A else B := by
  rw [decide_eq_true h]
  exact iteT q
theorem itF {p : Prop} [Decidable p] {A B : Prop} (h : ¬ p) (q : B) : if decide p = true then A else B := by
  rw [decide_eq_false h]
  exact iteF q
theorem it2 {p : Prop} [Decidable p] {A B : Prop} (h1 : p → A) (h2 : ¬ p → B) : if decide p = true then A else B := by
  by_cases h : p
  · exact itT h (h1 h)
  · exact itF h (h2 h)
theorem sz {n : Nat} (h : n ≤ 100000) : n ≤ sizeLine := Nat.le_trans h (by decide)
/-! ## heaps -/
theorem _root_.L2.Same.new {H : Hp} {p : Addr} {o : HO} (h : H p = none) : Same H (upd H p o) := fun a u e => by
  rw [upd_ne (ne_of_none e h)]
  exact e
theorem _root_.L2.Same.at_ {H H' : Hp} {a : Addr} {o : HO} (s : Same H H') (h : H a = some o) : H' a = some o := s a o h
/-- what H0 did not know may change -/
theorem _root_.L2.Same.mut {H0 H : Hp} {p : Addr} {o : HO} (s : Same H0 H) (h : H0 p = none) : Same H0 (upd H p o) := fun a u e => by
  rw [upd_ne (ne_of_none e h)]
  exact s a u e
theorem _root_.L2.Same.sqt {K : PySem.W.Frag} {H H' : Hp} {a : Addr} {xs : List V} (e : Same H H') (h : SqT K H a xs) : SqT K H' a xs := by
  rcases h with (h | ⟨o, h⟩) | h
  · exact .inl (.inl (e _ _ h))
  · exact .inl (.inr ⟨o, e _ _ h⟩)
  · exact .inr h
/-- all kept but at w -/
def But (w : Addr) (H H' : Hp) : Prop := ∀ b o, b ≠ w → H b = some o → H' b = some o
theorem But.refl (w : Addr) (H : Hp) : But w H H := fun _ _ _ h => h
theorem But.trans {w : Addr} {H H1 H2 : Hp} (a : But w H H1) (b : But w H1 H2) : But w H H2 := fun c o n h => b c o n (a c o n h)
theorem _root_.L2.Same.but {w : Addr} {H H1 : Hp} (a : Same H H1) : But w H H1 := fun c o _ h => a c o h
theorem But.upd {w : Addr} {H : Hp} {o : HO} : But w H (upd H w o) := fun b u n h => by
  rw [upd_ne n]
  exact h
theorem atI_zero {α : Type} {a : α} {l : List α} : atI (a :: l) (0 : Int) = some a := atI_nat (j := 0) rfl
/-! ## kinds of values -/
@[reducible] def strB : V → Bool
  | .str _ => true
  | _ => false
@[reducible] def intB : V → Bool
  | .int _ => true
  | .bl _ => true
  | _ => false
@[reducible] def blB : V → Bool
  | .bl _ => true
  | _ => false
structure Knd (K : PySem.W.Frag) (H : Hp) (x : V) : Prop where
  ex : ∃ t, TyX K H x t ∧ PySem.W.kitOne K t (.type "str") = some (strB x) ∧ PySem.W.kitOne K t (.type "int") = some (intB x) ∧ PySem.W.kitOne K t (.type "bool") = some (blB x)
  len : ∀ s, x = .str s → s.length ≤ 100000
theorem kt_str : kitB "str" "str" = some true ∧ kitB "str" "int" = some false ∧ kitB "str" "bool" = some false := by decide +kernel
theorem kt_int : kitB "int" "str" = some false ∧ kitB "int" "int" = some true ∧ kitB "int" "bool" = some false := by decide +kernel
theorem kt_bool : kitB "bool" "str" = some false ∧ kitB "bool" "int" = some true ∧ kitB "bool" "bool" = some true := by decide +kernel
theorem kt_NoneType : kitB "NoneType" "str" = some false ∧ kitB "NoneType" "int" = some false ∧ kitB "NoneType" "bool" = some false := by decide +kernel
theorem Knd.str {K : PySem.W.Frag} {H : Hp} {s : Str} (h : s.length ≤ 100000) : Knd K H (.str s) :=
  ⟨⟨_, .base (.str s), kit_ty kt_str.1, kit_ty kt_str.2.1, kit_ty kt_str.2.2⟩, fun _ e => by injection e with e; rw [← e]; exact h⟩
theorem Knd.int {K : PySem.W.Frag} {H : Hp} {i : Int} : Knd K H (.int i) :=
  ⟨⟨_, .base (.int i), kit_ty kt_int.1, kit_ty kt_int.2.1, kit_ty kt_int.2.2⟩, fun _ e => nomatch e⟩
theorem Knd.bl {K : PySem.W.Frag} {H : Hp} {b : Bool} : Knd K H (.bl b) :=
  ⟨⟨_, .base (.bl b), kit_ty kt_bool.1, kit_ty kt_bool.2.1, kit_ty kt_bool.2.2⟩, fun _ e => nomatch e⟩
theorem Knd.non {K : PySem.W.Frag} {H : Hp} : Knd K H .non :=
  ⟨⟨_, .base .non, kit_ty kt_NoneType.1, kit_ty kt_NoneType.2.1, kit_ty kt_NoneType.2.2⟩, fun _ e => nomatch e⟩
theorem _root_.L2.TyX.same {K : PySem.W.Frag} {H H' : Hp} {x : V} {t : Value} (s : Same H H') (h : TyX K H x t) : TyX K H' x t := by
  cases h with
  | base b =>
    refine .base ?_
    cases b with
    | non => exact .non
    | bl y => exact .bl y
    | int i => exact .int i
    | str y => exact .str y
    | flt y => exact .flt y
    | lst ea => exact .lst (s _ _ ea)
    | frz ea => exact .frz (s _ _ ea)
    | tup ea => exact .tup (s _ _ ea)
    | dK ea => exact .dK (s _ _ ea)
    | dT ea => exact .dT (s _ _ ea)
    | ins ea cl ha hn htk hm => exact .ins (s _ _ ea) cl ha hn htk hm
  | byt b => exact .byt b
  | set ea => exact .set (s _ _ ea)
  | kList e c => exact .kList e c
  | kTuple e c => exact .kTuple e c
  | kDict e c => exact .kDict e c
  | fTuple e => exact .fTuple (s _ _ e)
  | fDict e => exact .fDict (s _ _ e)
theorem Knd.same {K : PySem.W.Frag} {H H' : Hp} {x : V} (s : Same H H') (h : Knd K H x) : Knd K H' x := by
  obtain ⟨⟨t, h1, h2⟩, h3⟩ := h
  exact ⟨⟨t, h1.same s, h2⟩, h3⟩
end Kn

set_option Elab.async false
set_option linter.all false
set_option maxRecDepth 100000
set_option maxHeartbeats 2000000
namespace Kn
open PySem PySem.Spec PyProof.Rows L2
/-! ## texts -/
abbrev cl (s : Str) : List Nat := s.cps.toList
theorem cl_ext {x y : Str} (h : cl x = cl y) : x = y := by
  obtain ⟨⟨a⟩⟩ := x
  obtain ⟨⟨b⟩⟩ := y
  have : a = b := h
  rw [this]
theorem cl_len (s : Str) : s.length = (cl s).length := by simp [cl, Str.length]
theorem cl_app (x y : Str) : cl (x ++ y) = cl x ++ cl y := by
  show (x.cps ++ y.cps).toList = _
  simp [cl]
theorem empty_cl : cl ("" : Str) = [] := by decide +kernel
theorem ne_empty {s : Str} (h : cl s ≠ []) : ¬ s = "" := fun e => h (by rw [e, empty_cl])
/-- a name: one to eight small letters -/
structure Nm (s : Str) : Prop where
  ne : cl s ≠ []
  le : (cl s).length ≤ 8
  lt : ∀ c ∈ cl s, 97 ≤ c ∧ c ≤ 122
def LETk : Str := "abcdefghijklmnopqrstuvwxyz"
theorem LET_has : ∀ c : Nat, 97 ≤ c → c ≤ 122 → LETk.cps.contains c = true := by
  have h : ∀ k : _root_.Fin 26, LETk.cps.contains (97 + k.val) = true := by decide +kernel
  intro c h1 h2
  have := h ⟨c - 97, by omega⟩
  have e : 97 + (c - 97) = c := by omega
  simpa [e] using this
theorem takeWhile_id {α : Type} {p : α → Bool} : ∀ {l : List α}, (∀ x ∈ l, p x = true) → l.takeWhile p = l
  | [], _ => rfl
  | a :: r, h => by
    rw [List.takeWhile_cons, if_pos (h a (List.mem_cons_self ..)), takeWhile_id fun x hx => h x (List.mem_cons_of_mem _ hx)]
theorem strip_none {s : Str} (h : ∀ c ∈ cl s, LETk.cps.contains c = true) : Txt.stripChars s LETk = "" := by
  unfold Txt.stripChars
  rw [stripBy_eq]
  have e1 : PySem.stripLo LETk.cps.contains true s = (cl s).length := by
    show ((cl s).takeWhile _).length = _
    rw [takeWhile_id h]
  rw [e1]
  have e2 : PySem.stripHi LETk.cps.contains true s (cl s).length = (cl s).length := by
    show s.length - ((((cl s).drop (cl s).length).reverse).takeWhile _).length = _
    rw [List.drop_length]
    simp [cl_len]
  rw [e2]
  apply cl_ext
  rw [empty_cl]
  show (s.cps.extract (cl s).length (cl s).length).toList = []
  simp
theorem Nm.strip {s : Str} (h : Nm s) : Txt.stripChars s LETk = "" := strip_none fun c hc => LET_has c (h.lt c hc).1 (h.lt c hc).2
theorem Nm.len {s : Str} (h : Nm s) : s.length ≤ 8 := by
  rw [cl_len]
  exact h.le
def nmB (s : Str) : Bool := !(cl s).isEmpty && (decide ((cl s).length ≤ 8) && (cl s).all fun c => decide (97 ≤ c) && decide (c ≤ 122))
theorem nm_of {s : Str} (h : nmB s = true) : Nm s := by
  unfold nmB at h
  simp only [Bool.and_eq_true, Bool.not_eq_true', decide_eq_true_eq, List.all_eq_true] at h
  obtain ⟨h1, h2, h3⟩ := h
  exact ⟨fun e => (by rw [e] at h1; cases h1), h2, fun c hc => h3 c hc⟩
theorem Nm.ok {s : Str} (h : Nm s) : PyData.strOk s = true := by
  unfold PyData.strOk
  rw [← Array.all_toList]
  exact List.all_eq_true.mpr fun c hc => decide_eq_true (by have := h.lt c hc; omega)
/-- one sign -/
abbrev one (c : Nat) : Str := ⟨#[c]⟩
theorem cl_one (c : Nat) : cl (one c) = [c] := rfl
theorem join_empty : ∀ {cs : List Nat}, cl (Str.join "" (cs.map one)) = cs
  | [] => rfl
  | [c] => rfl
  | c :: d :: r => by
    have ih := join_empty (cs := d :: r)
    show cl (one c ++ "" ++ Str.join "" ((d :: r).map one)) = _
    rw [cl_app, cl_app, empty_cl, ih]
    rfl
/-! ## unlike things -/
theorem erase_len {α : Type} [DecidableEq α] {a : α} {l : List α} (h : a ∈ l) : (l.erase a).length + 1 = l.length := by
  have := List.length_erase_of_mem h
  have : 0 < l.length := List.length_pos_of_mem h
  omega
theorem nodup_le {α : Type} [DecidableEq α] : ∀ {xs ys : List α}, xs.Nodup → (∀ x ∈ xs, x ∈ ys) → xs.length ≤ ys.length
  | [], _, _, _ => Nat.zero_le _
  | x :: xs, ys, hn, hs => by
    obtain ⟨h1, h2⟩ := List.nodup_cons.mp hn
    have hx : x ∈ ys := hs x (List.mem_cons_self ..)
    have := nodup_le (xs := xs) (ys := ys.erase x) h2 fun z hz => by
      have hne : z ≠ x := fun e => h1 (e ▸ hz)
      exact (List.mem_erase_of_ne hne).mpr (hs z (List.mem_cons_of_mem _ hz))
    have := erase_len hx
    rw [List.length_cons]
    omega
theorem some_not_in {α : Type} [DecidableEq α] {xs ys : List α} (hn : xs.Nodup) (hl : ys.length < xs.length) : ∃ x ∈ xs, x ∉ ys := by
  apply Classical.byContradiction
  intro h
  have : ∀ x ∈ xs, x ∈ ys := fun x hx => Classical.byContradiction fun hy => h ⟨x, hx, hy⟩
  have := nodup_le hn this
  omega
/-! ## a well: a list of three numbers, changed by draws -/
def WellAt (H : Hp) (w : Addr) : Prop := ∃ a b c : Int, H w = some (.lst [.int a, .int b, .int c])
/-- what a draw leaves: all but the well -/
structure Dr (w : Addr) (H H' : Hp) : Prop where
  but : But w H H'
  well : WellAt H' w
theorem Dr.refl {w : Addr} {H : Hp} (h : WellAt H w) : Dr w H H := ⟨But.refl w H, h⟩
theorem Dr.trans {w : Addr} {H H1 H2 : Hp} (a : Dr w H H1) (b : Dr w H1 H2) : Dr w H H2 := ⟨a.but.trans b.but, b.well⟩
theorem Dr.free {w p : Addr} {H H' : Hp} (a : Dr w H H') (h0 : WellAt H w) (h : H' p = none) : H p = none := by
  cases e : H p with
  | none => rfl
  | some o =>
    by_cases hp : p = w
    · obtain ⟨_, _, _, q⟩ := a.well
      rw [hp, q] at h
      cases h
    · rw [a.but p o hp e] at h
      cases h
theorem Dr.new {w p : Addr} {H H' : Hp} {o : HO} (a : Dr w H H') (h : H' p = none) : Dr w H (upd H' p o) := by
  obtain ⟨x, y, z, q⟩ := a.well
  have hp : p ≠ w := fun e => by rw [e, q] at h; cases h
  refine ⟨fun b u n e => ?_, x, y, z, by rw [upd_ne hp.symm]; exact q⟩
  rw [upd_ne (ne_of_none (a.but b u n e) h)]
  exact a.but b u n e
/-- what H did not know may change -/
theorem Dr.mut {w p : Addr} {H H' : Hp} {o : HO} (a : Dr w H H') (h0 : WellAt H w) (h : H p = none) : Dr w H (upd H' p o) := by
  obtain ⟨x, y, z, q⟩ := a.well
  obtain ⟨_, _, _, q0⟩ := h0
  have hp : p ≠ w := fun e => by rw [e, q0] at h; cases h
  refine ⟨fun b u n e => ?_, x, y, z, by rw [upd_ne hp.symm]; exact q⟩
  rw [upd_ne (ne_of_none e h)]
  exact a.but b u n e
theorem Dr.ne {w p : Addr} {H : Hp} (h0 : WellAt H w) (h : H p = none) : p ≠ w := fun e => by
  obtain ⟨_, _, _, q⟩ := h0
  rw [e, q] at h
  cases h
/-- a well made after H: all of H stands -/
theorem Dr.same {w : Addr} {H0 H H' : Hp} (a : Dr w H H') (s : Same H0 H) (h : H0 w = none) : Same H0 H' := fun b o e => a.but b o (ne_of_none e h) (s b o e)
/-! ## data -/
/-- the heap without what stands at w -/
def hid (w : Addr) (H : Hp) : Hp := fun b => if b = w then none else H b
theorem hid_at {w a : Addr} {H : Hp} {o : HO} (h : hid w H a = some o) : H a = some o ∧ a ≠ w := by
  unfold hid at h
  by_cases e : a = w
  · rw [if_pos e] at h
    cases h
  · rw [if_neg e] at h
    exact ⟨h, e⟩
theorem hid_of {w a : Addr} {H : Hp} {o : HO} (h : H a = some o) (n : a ≠ w) : hid w H a = some o := by
  unfold hid
  rw [if_neg n]
  exact h
theorem hid_same {w : Addr} {H H' : Hp} (h : But w H H') : Same (hid w H) (hid w H') := fun b o e => by
  obtain ⟨h1, h2⟩ := hid_at e
  exact hid_of (h b o h2 h1) h2
theorem hid_le {w : Addr} {H : Hp} : Same (hid w H) H := fun b o e => (hid_at e).1
/-- scalars -/
def scB : V → Bool
  | .non => true
  | .bl _ => true
  | .int _ => true
  | .str s => PyData.strOk s
  | _ => false
def toD : V → PyData
  | .bl b => .bool b
  | .int i => .int i
  | .str s => .str s
  | _ => .none
theorem dp_sc {K : PySem.W.Frag} {H : Hp} {v : V} (h : scB v = true) : Dp K H v (toD v) := by
  cases v with
  | non => exact .non
  | bl b => exact .bl b
  | int i => exact .int i
  | str s => exact .str s
  | _ => cases h
theorem dpall_sc {K : PySem.W.Frag} {H : Hp} : ∀ {xs : List V}, xs.all scB = true → DpAll K H xs (xs.map toD)
  | [], _ => .nil
  | x :: xs, h => by
    obtain ⟨h1, h2⟩ := He.ba (show (scB x && xs.all scB) = true from h)
    exact .cons (dp_sc h1) (dpall_sc h2)
theorem lay_sc {v : V} (h : scB v = true) : (toD v).canLay0 = true ∧ (toD v).depth ≤ 1 := by
  cases v with
  | non => exact ⟨rfl, by simp [toD, PyData.depth]⟩
  | bl b => exact ⟨rfl, by simp [toD, PyData.depth]⟩
  | int i => exact ⟨rfl, by simp [toD, PyData.depth]⟩
  | str s => exact ⟨by simpa [toD, PyData.canLay0, scB] using h, by simp [toD, PyData.depth]⟩
  | _ => cases h
theorem layall_sc : ∀ {xs : List V}, xs.all scB = true → PyData.canLayAll0 (xs.map toD) = true ∧ PyData.depthAll (xs.map toD) ≤ 1
  | [], _ => ⟨rfl, by simp [PyData.depthAll]⟩
  | x :: xs, h => by
    obtain ⟨h1, h2⟩ := He.ba (show (scB x && xs.all scB) = true from h)
    obtain ⟨a1, a2⟩ := lay_sc h1
    obtain ⟨b1, b2⟩ := layall_sc h2
    refine ⟨?_, ?_⟩
    · simp only [List.map_cons, PyData.canLayAll0, a1, b1, Bool.and_self]
    · simp only [List.map_cons, PyData.depthAll]
      omega
theorem shaped_tup {xs : List V} (h : xs.all scB = true) : SeqAt.shaped (.tuple (xs.map toD)) = true := by
  obtain ⟨h1, h2⟩ := layall_sc h
  have h3 : (PyData.tuple (xs.map toD)).canLay0 = true := by simpa only [PyData.canLay0] using h1
  have h4 : (PyData.tuple (xs.map toD)).depth ≤ 64 := by
    simp only [PyData.depth]
    omega
  exact Bool.and_eq_true_iff.mpr ⟨h3, decide_eq_true h4⟩
theorem shaped_lst {xs : List V} (h : xs.all scB = true) : SeqAt.shaped (.list (xs.map toD)) = true := by
  obtain ⟨h1, h2⟩ := layall_sc h
  have h3 : (PyData.list (xs.map toD)).canLay0 = true := by simpa only [PyData.canLay0] using h1
  have h4 : (PyData.list (xs.map toD)).depth ≤ 64 := by
    simp only [PyData.depth]
    omega
  exact Bool.and_eq_true_iff.mpr ⟨h3, decide_eq_true h4⟩
theorem eqv_self {d : PyData} (h : SeqAt.shaped d = true) : PyData.eqv d d = true := SeqAt.eqv_refl d (SeqAt.canLay_of_shaped h)
section
variable {K : PySem.W.Frag} {H : Hp} {Q : VK} {p r : Addr} {xs : List V}
/-- two tuples of the same scalars -/
theorem v_eqTT (h1 : SqT K H p xs) (h2 : SqT K H r xs) (hs : xs.all scB = true) (q : Q (.bl true) H) : rEqX K (.ref p) (.ref r) H Q :=
  v_eqD (.tup h1 (dpall_sc hs)) (.tup h2 (dpall_sc hs)) (shaped_tup hs) (shaped_tup hs) (by rw [eqv_self (shaped_tup hs)]; exact q)
theorem v_neLL (h1 : SqL K H p xs) (h2 : SqL K H r xs) (hs : xs.all scB = true) (q : Q (.bl false) H) : rNeX K (.ref p) (.ref r) H Q :=
  v_neD (.lst h1 (dpall_sc hs)) (.lst h2 (dpall_sc hs)) (shaped_lst hs) (shaped_lst hs) (by rw [eqv_self (shaped_lst hs)]; exact q)
/-- a list of scalars and the empty list -/
theorem v_neL0 (h1 : SqL K H p xs) (h2 : SqL K H r []) (hs : xs.all scB = true) (q : Q (.bl (!xs.isEmpty)) H) : rNeX K (.ref p) (.ref r) H Q := by
  refine v_neD (.lst h1 (dpall_sc hs)) (.lst h2 .nil) (shaped_lst hs) (shaped_lst (xs := []) rfl) ?_
  have e : PyData.eqv (.list (xs.map toD)) (.list []) = xs.isEmpty := by
    cases xs with
    | nil => rfl
    | cons a r => rfl
  rw [e]
  exact q
end
/-! ## places -/
theorem atI_lt {α : Type} {xs : List α} {r : Int} (h0 : 0 ≤ r) (h1 : r < xs.length) : ∃ v, atI xs r = some v ∧ v ∈ xs ∧ xs[r.toNat]? = some v := by
  have hl : r.toNat < xs.length := by omega
  refine ⟨xs[r.toNat], ?_, List.getElem_mem _, List.getElem?_eq_getElem hl⟩
  have := atI_nat (xs := xs) (j := r.toNat) (v := xs[r.toNat]) (List.getElem?_eq_getElem hl)
  rwa [Int.toNat_of_nonneg h0] at this
theorem fmod_lt {a n : Int} (h : 0 < n) : 0 ≤ a.fmod n ∧ a.fmod n < n := by
  rw [Int.fmod_eq_emod_of_nonneg _ (by omega)]
  exact ⟨Int.emod_nonneg _ (by omega), Int.emod_lt_of_pos _ h⟩
theorem cl_cut7 (s : Str) : cl (cutS s none (some 7)) = (cl s).take 7 := by
  show (((cl s).drop 0).take (HT.sIx s.length s.length (some 7) - HT.sIx s.length 0 none)) = _
  rw [List.drop_zero]
  have e : HT.sIx s.length s.length (some 7) = min 7 s.length := HT.sIx_nat _ _ 7
  rw [e, cl_len]
  show (cl s).take (min 7 (cl s).length - 0) = _
  rw [Nat.sub_zero, List.take_eq_take_iff]
  omega
theorem nm_cut {s : Str} (h : Nm s) {c : Nat} (h1 : 97 ≤ c) (h2 : c ≤ 122) : Nm (cutS s none (some 7) ++ one c) := by
  have e : cl (cutS s none (some 7) ++ one c) = (cl s).take 7 ++ [c] := by rw [cl_app, cl_cut7, cl_one]
  refine ⟨by rw [e]; simp, ?_, ?_⟩
  · rw [e, List.length_append, List.length_take, List.length_singleton]
    omega
  · rw [e]
    intro d hd
    rcases List.mem_append.mp hd with hd | hd
    · exact h.lt d (List.mem_of_mem_take hd)
    · rw [List.mem_singleton.mp hd]
      exact ⟨h1, h2⟩
def cands (p : Str) : List Str := (List.range 26).map fun j => p ++ one (97 + j)
theorem app_inj {p : Str} {c d : Nat} (h : p ++ one c = p ++ one d) : c = d := by
  have e : cl p ++ [c] = cl p ++ [d] := by
    have := congrArg cl h
    rwa [cl_app, cl_app] at this
  have := List.append_cancel_left e
  injection this
theorem cands_nodup (p : Str) : (cands p).Nodup := by
  unfold cands
  refine List.pairwise_map.mpr (List.Pairwise.imp ?_ List.nodup_range)
  intro a b hab e
  have := app_inj e
  omega
theorem inV_str {z : Str} : ∀ {ns : List Str}, inV (.str z) (ns.map V.str) = decide (z ∈ ns)
  | [] => by simp [inV]
  | a :: r => by
    have ih := inV_str (z := z) (ns := r)
    unfold inV at ih ⊢
    rw [List.map_cons, List.any_cons, ih]
    by_cases h : a = z
    · subst h
      simp [eqV]
    · have h' : ¬ z = a := fun e => h e.symm
      simp [eqV, h, h']
theorem flat_str {ns : List Str} : (ns.map V.str).all flatV = true := by
  rw [List.all_map]
  exact List.all_eq_true.mpr fun _ _ => rfl
theorem sc_str {ns : List Str} (h : ∀ s ∈ ns, Nm s) : (ns.map V.str).all scB = true := by
  rw [List.all_map]
  exact List.all_eq_true.mpr fun s hs => (h s hs).ok
theorem v_niStr {K : PySem.W.Frag} {H : Hp} {Q : VK} {z : Str} {l : Addr} {ns : List Str} (h : SqL K H l (ns.map V.str)) (q : Q (.bl (!decide (z ∈ ns))) H) : rNotInX K (.str z) (.ref l) H Q :=
  .inl ⟨l, ns.map V.str, rfl, .inl h, rfl, flat_str, by rw [inV_str]; exact q⟩
end Kn

set_option Elab.async false
set_option linter.all false
set_option maxRecDepth 100000
set_option maxHeartbeats 2000000
namespace Kn
open PySem PySem.Spec PyProof.Rows L2
/-! ## data: any depth, no dict -/
mutual
def smD : PyData → Bool
  | .str s => decide (s.length ≤ 100000)
  | .list xs => smAll xs
  | .tuple xs => smAll xs
  | _ => true
def smAll : List PyData → Bool
  | [] => true
  | x :: xs => smD x && smAll xs
end
/-- fit to be read: no dict, not deep, texts small -/
structure Fit (d : PyData) : Prop where
  sh : SeqAt.shaped d = true
  sm : smD d = true
theorem canAll_mem : ∀ {xs : List PyData} {x : PyData}, PyData.canLayAll0 xs = true → x ∈ xs → x.canLay0 = true
  | y :: r, x, h, hx => by
    have h' : y.canLay0 = true ∧ PyData.canLayAll0 r = true := by simpa [PyData.canLayAll0] using h
    rcases List.mem_cons.mp hx with e | hx
    · rw [e]; exact h'.1
    · exact canAll_mem h'.2 hx
theorem depAll_mem : ∀ {xs : List PyData} {x : PyData}, x ∈ xs → x.depth ≤ PyData.depthAll xs
  | y :: r, x, hx => by
    simp only [PyData.depthAll]
    rcases List.mem_cons.mp hx with e | hx
    · rw [e]; exact Nat.le_max_left _ _
    · exact Nat.le_trans (depAll_mem hx) (Nat.le_max_right _ _)
theorem smAll_mem : ∀ {xs : List PyData} {x : PyData}, smAll xs = true → x ∈ xs → smD x = true
  | y :: r, x, h, hx => by
    have h' : smD y = true ∧ smAll r = true := by simpa [smAll] using h
    rcases List.mem_cons.mp hx with e | hx
    · rw [e]; exact h'.1
    · exact smAll_mem h'.2 hx
theorem canAll_of : ∀ {xs : List PyData}, (∀ x ∈ xs, x.canLay0 = true) → PyData.canLayAll0 xs = true
  | [], _ => rfl
  | y :: r, h => by simp only [PyData.canLayAll0, h y (List.mem_cons_self ..), canAll_of fun x hx => h x (List.mem_cons_of_mem _ hx), Bool.and_self]
theorem depAll_of {n : Nat} : ∀ {xs : List PyData}, (∀ x ∈ xs, x.depth ≤ n) → PyData.depthAll xs ≤ n
  | [], _ => Nat.zero_le _
  | y :: r, h => by
    simp only [PyData.depthAll]
    exact Nat.max_le.mpr ⟨h y (List.mem_cons_self ..), depAll_of fun x hx => h x (List.mem_cons_of_mem _ hx)⟩
theorem smAll_of : ∀ {xs : List PyData}, (∀ x ∈ xs, smD x = true) → smAll xs = true
  | [], _ => rfl
  | y :: r, h => by simp only [smAll, h y (List.mem_cons_self ..), smAll_of fun x hx => h x (List.mem_cons_of_mem _ hx), Bool.and_self]
theorem Fit.lst_mem {xs : List PyData} {x : PyData} (h : Fit (.list xs)) (hx : x ∈ xs) : Fit x := by
  have h1 : PyData.canLayAll0 xs = true := by simpa only [PyData.canLay0] using SeqAt.canLay_of_shaped h.sh
  have h2 : PyData.depthAll xs + 1 ≤ 64 := by simpa only [PyData.depth] using SeqAt.depth_of_shaped h.sh
  have h3 := depAll_mem hx
  exact ⟨Bool.and_eq_true_iff.mpr ⟨canAll_mem h1 hx, decide_eq_true (by omega)⟩, smAll_mem (by simpa only [smD] using h.sm) hx⟩
theorem Fit.tup_mem {xs : List PyData} {x : PyData} (h : Fit (.tuple xs)) (hx : x ∈ xs) : Fit x := by
  have h1 : PyData.canLayAll0 xs = true := by simpa only [PyData.canLay0] using SeqAt.canLay_of_shaped h.sh
  have h2 : PyData.depthAll xs + 1 ≤ 64 := by simpa only [PyData.depth] using SeqAt.depth_of_shaped h.sh
  have h3 := depAll_mem hx
  exact ⟨Bool.and_eq_true_iff.mpr ⟨canAll_mem h1 hx, decide_eq_true (by omega)⟩, smAll_mem (by simpa only [smD] using h.sm) hx⟩
/-- fit, and of that depth at most -/
structure FitN (n : Nat) (d : PyData) : Prop where
  can : d.canLay0 = true
  dep : d.depth ≤ n
  sm : smD d = true
theorem FitN.fit {n : Nat} {d : PyData} (h : FitN n d) (hn : n ≤ 64) : Fit d := ⟨Bool.and_eq_true_iff.mpr ⟨h.can, decide_eq_true (Nat.le_trans h.dep hn)⟩, h.sm⟩
theorem FitN.lst {n : Nat} {xs : List PyData} (h : ∀ x ∈ xs, FitN n x) : FitN (n + 1) (.list xs) :=
  ⟨by simpa only [PyData.canLay0] using canAll_of fun x hx => (h x hx).can, by simp only [PyData.depth]; exact Nat.succ_le_succ (depAll_of fun x hx => (h x hx).dep), by simpa only [smD] using smAll_of fun x hx => (h x hx).sm⟩
theorem FitN.tup {n : Nat} {xs : List PyData} (h : ∀ x ∈ xs, FitN n x) : FitN (n + 1) (.tuple xs) :=
  ⟨by simpa only [PyData.canLay0] using canAll_of fun x hx => (h x hx).can, by simp only [PyData.depth]; exact Nat.succ_le_succ (depAll_of fun x hx => (h x hx).dep), by simpa only [smD] using smAll_of fun x hx => (h x hx).sm⟩
theorem FitN.int {n : Nat} {i : Int} : FitN n (.int i) := ⟨rfl, by simp [PyData.depth], rfl⟩
theorem FitN.bl {n : Nat} {b : Bool} : FitN n (.bool b) := ⟨rfl, by simp [PyData.depth], rfl⟩
theorem FitN.str {n : Nat} {s : Str} (h : PyData.strOk s = true) (hl : s.length ≤ 100000) : FitN n (.str s) := ⟨by simpa only [PyData.canLay0] using h, by simp [PyData.depth], by simp only [smD, decide_eq_true_eq]; exact hl⟩
theorem FitN.nm {n : Nat} {s : Str} (h : Nm s) : FitN n (.str s) := .str h.ok (by have := h.len; omega)
theorem FitN.em {n : Nat} : FitN n (.str "") := .str (by decide +kernel) (by decide +kernel)
theorem Fit.refl {d : PyData} (h : Fit d) : PyData.eqv d d = true := eqv_self h.sh
/-! ## data in a heap -/
mutual
theorem Dp.same {K : PySem.W.Frag} {H H' : Hp} (s : Same H H') : ∀ {d : PyData} {v : V}, Dp K H v d → Dp K H' v d
  | _, _, .non => .non
  | _, _, .bl b => .bl b
  | _, _, .int i => .int i
  | _, _, .str x => .str x
  | _, _, .lst h1 h2 => .lst (s.seq h1) (DpAll.same s h2)
  | _, _, .tup h1 h2 => .tup (s.sqt h1) (DpAll.same s h2)
theorem DpAll.same {K : PySem.W.Frag} {H H' : Hp} (s : Same H H') : ∀ {ds : List PyData} {vs : List V}, DpAll K H vs ds → DpAll K H' vs ds
  | _, _, .nil => .nil
  | _, _, .cons h1 h2 => .cons (Dp.same s h1) (DpAll.same s h2)
end
theorem DpAll.len {K : PySem.W.Frag} {H : Hp} : ∀ {vs : List V} {ds : List PyData}, DpAll K H vs ds → vs.length = ds.length
  | _, _, .nil => rfl
  | _, _, .cons _ h => congrArg Nat.succ (DpAll.len h)
theorem DpAll.at_ {K : PySem.W.Frag} {H : Hp} : ∀ {vs : List V} {ds : List PyData} {i : Nat} {v : V}, DpAll K H vs ds → vs[i]? = some v → ∃ d, ds[i]? = some d ∧ Dp K H v d
  | _, _, 0, _, .cons h _, e => ⟨_, rfl, by injection e with e; rw [← e]; exact h⟩
  | _, _, i + 1, _, .cons _ h, e => DpAll.at_ (i := i) h e
theorem DpAll.snoc {K : PySem.W.Frag} {H : Hp} : ∀ {vs : List V} {ds : List PyData} {v : V} {d : PyData}, DpAll K H vs ds → Dp K H v d → DpAll K H (vs ++ [v]) (ds ++ [d])
  | _, _, _, _, .nil, h => .cons h .nil
  | _, _, _, _, .cons h1 h2, h => .cons h1 (DpAll.snoc h2 h)
theorem DpAll.strs {K : PySem.W.Frag} {H : Hp} : ∀ {ns : List Str}, DpAll K H (ns.map V.str) (ns.map PyData.str)
  | [] => .nil
  | a :: r => .cons (.str a) DpAll.strs
theorem DpAll.ints {K : PySem.W.Frag} {H : Hp} : ∀ {ns : List Int}, DpAll K H (ns.map V.int) (ns.map PyData.int)
  | [] => .nil
  | a :: r => .cons (.int a) DpAll.ints
/-- kinds of data -/
@[reducible] def dStr : PyData → Bool | .str _ => true | _ => false
@[reducible] def dInt : PyData → Bool | .int _ => true | .bool _ => true | _ => false
@[reducible] def dBl : PyData → Bool | .bool _ => true | _ => false
@[reducible] def dTup : PyData → Bool | .tuple _ => true | _ => false
@[reducible] def dLst : PyData → Bool | .list _ => true | _ => false
theorem tyL {K : PySem.W.Frag} {H : Hp} {a : Addr} {xs : List V} (h : SqL K H a xs) : TyX K H (.ref a) (.type "list") := by
  rcases h with (h | ⟨o, h⟩) | ⟨o, its, n, h1, h2, _⟩
  · exact .base (.lst h)
  · exact .base (.frz h)
  · exact .kList h1 h2
theorem tyT {K : PySem.W.Frag} {H : Hp} {a : Addr} {xs : List V} (h : SqT K H a xs) : TyX K H (.ref a) (.type "tuple") := by
  rcases h with (h | ⟨o, h⟩) | ⟨o, its, n, h1, h2, _⟩
  · exact .base (.tup h)
  · exact .fTuple h
  · exact .kTuple h1 h2
structure KT (K : PySem.W.Frag) (H : Hp) (v : V) (d : PyData) : Prop where
  ex : ∃ t, TyX K H v t ∧ PySem.W.kitOne K t (.type "str") = some (dStr d) ∧ PySem.W.kitOne K t (.type "int") = some (dInt d) ∧ PySem.W.kitOne K t (.type "bool") = some (dBl d) ∧ PySem.W.kitOne K t (.type "tuple") = some (dTup d) ∧ PySem.W.kitOne K t (.type "list") = some (dLst d)
theorem kk : ∀ a ∈ (["NoneType", "bool", "int", "str", "list", "tuple"] : List String), kitB a "str" = some (a == "str") ∧ kitB a "int" = some (a == "int" || a == "bool") ∧ kitB a "bool" = some (a == "bool") ∧ kitB a "tuple" = some (a == "tuple") ∧ kitB a "list" = some (a == "list") := by decide +kernel
theorem kt_dp {K : PySem.W.Frag} {H : Hp} {v : V} {d : PyData} (h : Dp K H v d) : KT K H v d := by
  cases h with
  | non => obtain ⟨a, b, c, e, f⟩ := kk "NoneType" (by simp); exact ⟨_, .base .non, kit_ty a, kit_ty b, kit_ty c, kit_ty e, kit_ty f⟩
  | bl x => obtain ⟨a, b, c, e, f⟩ := kk "bool" (by simp); exact ⟨_, .base (.bl x), kit_ty a, kit_ty b, kit_ty c, kit_ty e, kit_ty f⟩
  | int i => obtain ⟨a, b, c, e, f⟩ := kk "int" (by simp); exact ⟨_, .base (.int i), kit_ty a, kit_ty b, kit_ty c, kit_ty e, kit_ty f⟩
  | str x => obtain ⟨a, b, c, e, f⟩ := kk "str" (by simp); exact ⟨_, .base (.str x), kit_ty a, kit_ty b, kit_ty c, kit_ty e, kit_ty f⟩
  | lst hs ha => obtain ⟨a, b, c, e, f⟩ := kk "list" (by simp); exact ⟨_, tyL hs, kit_ty a, kit_ty b, kit_ty c, kit_ty e, kit_ty f⟩
  | tup hs ha => obtain ⟨a, b, c, e, f⟩ := kk "tuple" (by simp); exact ⟨_, tyT hs, kit_ty a, kit_ty b, kit_ty c, kit_ty e, kit_ty f⟩
theorem knd_dp {K : PySem.W.Frag} {H : Hp} {v : V} {d : PyData} (h : Dp K H v d) (f : smD d = true) : Knd K H v := by
  obtain ⟨t, h1, h2, h3, h4, _⟩ := kt_dp h
  cases h with
  | non => exact .non
  | bl b => exact .bl
  | int i => exact .int
  | str x => exact .str (by simpa only [smD, decide_eq_true_eq] using f)
  | lst _ _ => exact ⟨⟨t, h1, h2, h3, h4⟩, fun _ e => nomatch e⟩
  | tup _ _ => exact ⟨⟨t, h1, h2, h3, h4⟩, fun _ e => nomatch e⟩
theorem dp_int {K : PySem.W.Frag} {H : Hp} {v : V} {d : PyData} (h : Dp K H v d) {i : Int} : v = .int i ↔ d = .int i := by
  cases h <;> simp
theorem dp_strI {K : PySem.W.Frag} {H : Hp} {v : V} {s : Str} (h : Dp K H v (.str s)) : v = .str s := by
  cases h
  rfl
section
variable {K : PySem.W.Frag} {H : Hp} {Q : VK} {x y : V} {d e : PyData}
theorem v_eqF (h1 : Dp K H x d) (h2 : Dp K H y e) (s1 : Fit d) (s2 : Fit e) (q : Q (.bl (PyData.eqv d e)) H) : rEqX K x y H Q := v_eqD h1 h2 s1.sh s2.sh q
theorem v_neF (h1 : Dp K H x d) (h2 : Dp K H y e) (s1 : Fit d) (s2 : Fit e) (q : Q (.bl (!PyData.eqv d e)) H) : rNeX K x y H Q := v_neD h1 h2 s1.sh s2.sh q
theorem v_eqR (h1 : Dp K H x d) (h2 : Dp K H y d) (s1 : Fit d) (q : Q (.bl true) H) : rEqX K x y H Q := v_eqD h1 h2 s1.sh s1.sh (by rw [s1.refl]; exact q)
theorem v_neR (h1 : Dp K H x d) (h2 : Dp K H y d) (s1 : Fit d) (q : Q (.bl false) H) : rNeX K x y H Q := v_neD h1 h2 s1.sh s1.sh (by rw [s1.refl]; exact q)
theorem v_inF {ds : List PyData} (h1 : Dp K H x d) (h2 : Dp K H y (.list ds)) (s1 : Fit d) (s2 : Fit (.list ds)) (q : Q (.bl (ds.any fun z => PyData.eqv z d)) H) : rInX K x y H Q := .inr (.inr ⟨d, ds, h1, h2, s1.sh, s2.sh, q⟩)
theorem v_niF {ds : List PyData} (h1 : Dp K H x d) (h2 : Dp K H y (.list ds)) (s1 : Fit d) (s2 : Fit (.list ds)) (q : Q (.bl (!ds.any fun z => PyData.eqv z d)) H) : rNotInX K x y H Q := .inr (.inr ⟨d, ds, h1, h2, s1.sh, s2.sh, q⟩)
theorem v_inStr {z : Str} {l : Addr} {ns : List Str} (h : SqL K H l (ns.map V.str)) (q : Q (.bl (decide (z ∈ ns))) H) : rInX K (.str z) (.ref l) H Q :=
  .inl ⟨l, ns.map V.str, rfl, .inl h, rfl, flat_str, by rw [inV_str]; exact q⟩
end
theorem eqv_str {a b : Str} : PyData.eqv (.str a) (.str b) = decide (a = b) := by
  by_cases h : a = b
  · subst h; simp [PyData.eqv]
  · simp [PyData.eqv, h]
/-- the items in a list of texts that are like a thing -/
theorem any_str {ns : List Str} {s : Str} : ((ns.map PyData.str).any fun z => PyData.eqv z (.str s)) = decide (s ∈ ns) := by
  induction ns with
  | nil => simp
  | cons a r ih =>
    rw [List.map_cons, List.any_cons, ih, eqv_str]
    by_cases h : a = s
    · subst h; simp
    · have h' : ¬ s = a := fun e => h e.symm
      simp [h, h']
theorem fit_strs {ns : List Str} (h : ∀ s ∈ ns, PyData.strOk s = true ∧ s.length ≤ 8) : Fit (.list (ns.map PyData.str)) :=
  (FitN.lst (n := 2) fun x hx => by
    obtain ⟨s, hs, rfl⟩ := List.mem_map.mp hx
    exact .str (h s hs).1 (by have := (h s hs).2; omega)).fit (by omega)
theorem fit_em : Fit (.str "") := (FitN.em (n := 1)).fit (by omega)
theorem fit_nil : Fit (.list []) := (FitN.lst (n := 1) fun x hx => (List.not_mem_nil hx).elim).fit (by omega)
theorem Fit.strok {s : Str} (h : Fit (.str s)) : PyData.strOk s = true := by simpa only [PyData.canLay0] using SeqAt.canLay_of_shaped h.sh
theorem eqv_nil {ds : List PyData} : PyData.eqv (.list ds) (.list []) = ds.isEmpty := by
  cases ds <;> rfl
section
variable {K : PySem.W.Frag} {H : Hp} {v : V}
theorem dp_lst {ds : List PyData} (h : Dp K H v (.list ds)) : ∃ a xs, v = .ref a ∧ SqL K H a xs ∧ DpAll K H xs ds := by
  cases h with
  | lst h1 h2 => exact ⟨_, _, rfl, h1, h2⟩
theorem dp_tup {ds : List PyData} (h : Dp K H v (.tuple ds)) : ∃ a xs, v = .ref a ∧ SqT K H a xs ∧ DpAll K H xs ds := by
  cases h with
  | tup h1 h2 => exact ⟨_, _, rfl, h1, h2⟩
theorem dpall_nil {vs : List V} (h : DpAll K H vs []) : vs = [] := by
  cases h with
  | nil => rfl
theorem dpall_cons {vs : List V} {d : PyData} {ds : List PyData} (h : DpAll K H vs (d :: ds)) : ∃ x r, vs = x :: r ∧ Dp K H x d ∧ DpAll K H r ds := by
  cases h with
  | cons h1 h2 => exact ⟨_, _, rfl, h1, h2⟩
theorem dp_t2 {d e : PyData} (h : Dp K H v (.tuple [d, e])) : ∃ a x y, v = .ref a ∧ SqT K H a [x, y] ∧ Dp K H x d ∧ Dp K H y e := by
  obtain ⟨a, xs, e, h1, h2⟩ := dp_tup h
  obtain ⟨x, r, rfl, h3, h2⟩ := dpall_cons h2
  obtain ⟨y, r, rfl, h4, h2⟩ := dpall_cons h2
  obtain rfl := dpall_nil h2
  exact ⟨a, x, y, e, h1, h3, h4⟩
theorem dp_t4 {d1 d2 d3 d4 : PyData} (h : Dp K H v (.tuple [d1, d2, d3, d4])) : ∃ a x1 x2 x3 x4, v = .ref a ∧ SqT K H a [x1, x2, x3, x4] ∧ Dp K H x1 d1 ∧ Dp K H x2 d2 ∧ Dp K H x3 d3 ∧ Dp K H x4 d4 := by
  obtain ⟨a, xs, e, h1, h2⟩ := dp_tup h
  obtain ⟨x1, r, rfl, h3, h2⟩ := dpall_cons h2
  obtain ⟨x2, r, rfl, h4, h2⟩ := dpall_cons h2
  obtain ⟨x3, r, rfl, h5, h2⟩ := dpall_cons h2
  obtain ⟨x4, r, rfl, h6, h2⟩ := dpall_cons h2
  obtain rfl := dpall_nil h2
  exact ⟨a, x1, x2, x3, x4, e, h1, h3, h4, h5, h6⟩
end
/-! ## no list within: stands whatever lists change -/
def SameT (H H' : Hp) : Prop := ∀ a o, H a = some o → (∀ xs, o ≠ .lst xs) → H' a = some o
mutual
def noL : PyData → Bool
  | .list _ => false
  | .tuple xs => noLs xs
  | _ => true
def noLs : List PyData → Bool
  | [] => true
  | x :: xs => noL x && noLs xs
end
theorem SameT.sqt {K : PySem.W.Frag} {H H' : Hp} {a : Addr} {xs : List V} (e : SameT H H') (h : SqT K H a xs) : SqT K H' a xs := by
  rcases h with (h | ⟨o, h⟩) | h
  · exact .inl (.inl (e _ _ h (fun _ q => by cases q)))
  · exact .inl (.inr ⟨o, e _ _ h (fun _ q => by cases q)⟩)
  · exact .inr h
theorem noLs_cons {x : PyData} {xs : List PyData} (h : noLs (x :: xs) = true) : noL x = true ∧ noLs xs = true := by
  rw [noLs] at h
  exact He.ba h
theorem noL_tup {xs : List PyData} (h : noL (.tuple xs) = true) : noLs xs = true := by rw [noL] at h; exact h
theorem noL_lst {xs : List PyData} (h : noL (.list xs) = true) : False := by rw [noL] at h; cases h
mutual
theorem Dp.sameT {K : PySem.W.Frag} {H H' : Hp} (s : SameT H H') : ∀ {d : PyData} {v : V}, Dp K H v d → noL d = true → Dp K H' v d
  | _, _, .non, _ => .non
  | _, _, .bl b, _ => .bl b
  | _, _, .int i, _ => .int i
  | _, _, .str x, _ => .str x
  | _, _, .lst _ _, h => (noL_lst h).elim
  | _, _, .tup h1 h2, h => .tup (s.sqt h1) (DpAll.sameT s h2 (noL_tup h))
theorem DpAll.sameT {K : PySem.W.Frag} {H H' : Hp} (s : SameT H H') : ∀ {ds : List PyData} {vs : List V}, DpAll K H vs ds → noLs ds = true → DpAll K H' vs ds
  | _, _, .nil, _ => .nil
  | _, _, .cons h1 h2, h => .cons (Dp.sameT s h1 (noLs_cons h).1) (DpAll.sameT s h2 (noLs_cons h).2)
end
theorem noLs_of : ∀ {ds : List PyData}, (∀ d ∈ ds, noL d = true) → noLs ds = true
  | [], _ => rfl
  | d :: r, h => by simp only [noLs, h d (List.mem_cons_self ..), noLs_of fun x hx => h x (List.mem_cons_of_mem _ hx), Bool.and_self]
theorem _root_.L2.Same.sameT {H H' : Hp} (s : Same H H') : SameT H H' := fun a o h _ => s a o h
theorem SameT.trans {H H1 H2 : Hp} (a : SameT H H1) (b : SameT H1 H2) : SameT H H2 := fun x o h n => b x o (a x o h n) n
theorem SameT.upd {H : Hp} {a : Addr} {xs ys : List V} (h : H a = some (.lst xs)) : SameT H (upd H a (.lst ys)) := fun b o e n => by
  by_cases q : b = a
  · rw [q, h] at e
    injection e with e
    exact (n _ e.symm).elim
  · rw [upd_ne q]
    exact e
end Kn

set_option Elab.async false
set_option linter.all false
set_option maxRecDepth 100000
set_option maxHeartbeats 2000000
namespace Kn
open PySem PySem.Spec PyProof.Rows L2
/-! ## some places hidden -/
def hidL (ws : List Addr) (H : Hp) : Hp := fun b => if b ∈ ws then none else H b
theorem hidL_at {ws : List Addr} {a : Addr} {H : Hp} {o : HO} (h : hidL ws H a = some o) : H a = some o ∧ a ∉ ws := by
  unfold hidL at h
  by_cases e : a ∈ ws
  · rw [if_pos e] at h
    cases h
  · rw [if_neg e] at h
    exact ⟨h, e⟩
theorem hidL_of {ws : List Addr} {a : Addr} {H : Hp} {o : HO} (h : H a = some o) (n : a ∉ ws) : hidL ws H a = some o := by
  unfold hidL
  rw [if_neg n]
  exact h
theorem hidL_le {ws : List Addr} {H : Hp} : Same (hidL ws H) H := fun b o e => (hidL_at e).1
theorem hidL_same {ws : List Addr} {H H' : Hp} (s : Same H H') : Same (hidL ws H) (hidL ws H') := fun b o e => hidL_of (s b o (hidL_at e).1) (hidL_at e).2
theorem hidL_but {ws : List Addr} {w : Addr} {H H' : Hp} (h : w ∈ ws) (s : But w H H') : Same (hidL ws H) (hidL ws H') := fun b o e => by
  obtain ⟨h1, h2⟩ := hidL_at e
  exact hidL_of (s b o (fun z => h2 (z ▸ h)) h1) h2
theorem hidL_upd {ws : List Addr} {w : Addr} {H : Hp} {o : HO} (h : w ∈ ws) : Same (hidL ws H) (hidL ws (upd H w o)) := hidL_but h But.upd
theorem hidL_sub {ws us : List Addr} {H : Hp} (h : ∀ x ∈ ws, x ∈ us) : Same (hidL us H) (hidL ws H) := fun b o e => by
  obtain ⟨h1, h2⟩ := hidL_at e
  exact hidL_of h1 fun z => h2 (h b z)
theorem hidL_sameT {ws : List Addr} {H : Hp} (h : ∀ w ∈ ws, ∃ xs, H w = some (.lst xs)) : SameT H (hidL ws H) := fun a o e n => hidL_of e fun m => by
  obtain ⟨xs, q⟩ := h a m
  rw [q] at e
  injection e with e
  exact n _ e.symm
theorem fresh_nin {ws : List Addr} {H : Hp} {p : Addr} (h : ∀ w ∈ ws, H w ≠ none) (n : H p = none) : p ∉ ws := fun m => h p m n
theorem free_of {H H' : Hp} {a : Addr} (s : Same H H') (h : H' a = none) : H a = none := by
  cases q : H a with
  | none => rfl
  | some u => rw [s.at_ q] at h; cases h
theorem sz_lt {n : Nat} (h : n ≤ 100000) : n < sizeLine := Nat.lt_of_le_of_lt h (by decide)
/-! ## kinds of things by value -/
@[reducible] def wholeB : V → Bool
  | .int _ => true
  | _ => false
def withinB (x : V) (lo hi : Int) : Bool := match x with
  | .int i => decide (lo ≤ i) && decide (i ≤ hi)
  | _ => false
abbrev LET : Str := LETk
def nameS (s : Str) : Bool := !decide (s = "") && (!decide ((8 : Int) < s.length) && decide (Txt.stripChars s LET = ""))
def nameB : V → Bool
  | .str s => nameS s
  | _ => false
def dNm : PyData → Bool
  | .str s => nameS s
  | _ => false
def withinD (x : PyData) (lo hi : Int) : Bool := match x with
  | .int i => decide (lo ≤ i) && decide (i ≤ hi)
  | _ => false
theorem dp_nm {K : PySem.W.Frag} {H : Hp} {v : V} {d : PyData} (h : Dp K H v d) : nameB v = dNm d := by cases h <;> rfl
theorem dp_within {K : PySem.W.Frag} {H : Hp} {v : V} {d : PyData} (h : Dp K H v d) {lo hi : Int} : withinB v lo hi = withinD d lo hi := by cases h <;> rfl
theorem withinB_int {x : V} {lo hi : Int} (h : withinB x lo hi = true) : ∃ i, x = .int i ∧ lo ≤ i ∧ i ≤ hi := by
  cases x with
  | int i =>
    obtain ⟨h1, h2⟩ := He.ba (show (decide (lo ≤ i) && decide (i ≤ hi)) = true from h)
    exact ⟨i, rfl, of_decide_eq_true h1, of_decide_eq_true h2⟩
  | _ => cases h
theorem nameB_str {x : V} (h : nameB x = true) : ∃ s, x = .str s := by
  cases x with
  | str s => exact ⟨s, rfl⟩
  | _ => cases h
theorem Nm.name {s : Str} (h : Nm s) : nameS s = true := by
  unfold nameS
  have h1 : ¬ s = "" := ne_empty h.ne
  have h2 : ¬ (8 : Int) < s.length := by have := h.len; omega
  rw [decide_eq_false h1, decide_eq_false h2]
  rw [decide_eq_true h.strip]
  rfl
theorem nameS_len {s : Str} (h : nameS s = true) : s.length ≤ 8 ∧ ¬ s = "" := by
  unfold nameS at h
  simp only [Bool.and_eq_true, Bool.not_eq_true', decide_eq_false_iff_not] at h
  exact ⟨by have := h.2.1; omega, h.1⟩
/-- like that text -/
def dIs (d : PyData) (s : Str) : Bool := match d with
  | .str t => decide (t = s)
  | _ => false
def dIn (d : PyData) (ns : List Str) : Bool := match d with
  | .str t => decide (t ∈ ns)
  | _ => false
theorem eqv_strR {d : PyData} {s : Str} : PyData.eqv d (.str s) = dIs d s := by
  cases d with
  | str t => exact eqv_str
  | _ => rfl
theorem eqv_strL {d : PyData} {s : Str} : PyData.eqv (.str s) d = dIs d s := by
  cases d with
  | str t =>
    rw [eqv_str]
    show _ = decide (t = s)
    by_cases h : s = t
    · subst h; rfl
    · rw [decide_eq_false h, decide_eq_false (fun e => h e.symm)]
  | _ => rfl
theorem any_dIn {d : PyData} : ∀ {ns : List Str}, ((ns.map PyData.str).any fun z => PyData.eqv z d) = dIn d ns
  | [] => by cases d <;> simp [dIn]
  | a :: r => by
    rw [List.map_cons, List.any_cons, any_dIn, eqv_strL]
    cases d with
    | str t =>
      show (decide (t = a) || decide (t ∈ r)) = decide (t ∈ a :: r)
      by_cases h : t = a
      · subst h; simp
      · simp [h]
    | _ => rfl
/-! ## a table by name, in order -/
section
variable {α : Type}
def getS (ss : List (Str × α)) (k : Str) : Option α := (ss.find? fun x => decide (x.1 = k)).map (·.2)
def putS (ss : List (Str × α)) (k : Str) (v : α) : List (Str × α) := if (ss.any fun x => decide (x.1 = k)) = true then ss.map (fun x => if x.1 = k then (x.1, v) else x) else ss ++ [(k, v)]
def SV (R : α → V → Prop) (s : Str × α) (kv : Key × V) : Prop := kv.1 = .inr s.1 ∧ R s.2 kv.2
variable {R : α → V → Prop}
theorem sv_get {k : Str} : ∀ {ss : List (Str × α)} {kvs : List (Key × V)}, Paired (SV R) ss kvs → (∃ a v, getS ss k = some a ∧ valV kvs (.inr k) = some v ∧ R a v) ∨ (getS ss k = none ∧ valV kvs (.inr k) = none)
  | _, _, .nil => .inr ⟨rfl, rfl⟩
  | s :: ss, kv :: kvs, .cons ⟨h1, h2⟩ hr => by
    by_cases h : s.1 = k
    · refine .inl ⟨s.2, kv.2, ?_, valV_pos (by rw [h1, h]), h2⟩
      simp [getS, List.find?_cons, h]
    · have hk : ¬ kv.1 = (.inr k : Key) := fun e => h (by rw [h1] at e; injection e)
      rw [valV_neg hk, show getS (s :: ss) k = getS ss k from by simp [getS, List.find?_cons, h]]
      exact sv_get hr
theorem sv_any {k : Str} : ∀ {ss : List (Str × α)} {kvs : List (Key × V)}, Paired (SV R) ss kvs → (ss.any fun x => decide (x.1 = k)) = kvs.any fun x => decide (x.1 = (.inr k : Key))
  | _, _, .nil => rfl
  | s :: ss, kv :: kvs, .cons ⟨h1, h2⟩ hr => by
    rw [List.any_cons, List.any_cons, sv_any hr]
    by_cases h : s.1 = k
    · rw [decide_eq_true h, decide_eq_true (show kv.1 = .inr k by rw [h1, h])]
    · rw [decide_eq_false h, decide_eq_false (show ¬ kv.1 = (.inr k : Key) from fun e => h (by rw [h1] at e; injection e))]
theorem sv_map {k : Str} {a : α} {v : V} (hv : R a v) : ∀ {ss : List (Str × α)} {kvs : List (Key × V)}, Paired (SV R) ss kvs →
    Paired (SV R) (ss.map fun x => if x.1 = k then (x.1, a) else x) (kvs.map fun x => if x.1 = (.inr k : Key) then (x.1, v) else x)
  | _, _, .nil => .nil
  | s :: ss, kv :: kvs, .cons ⟨h1, h2⟩ hr => by
    refine .cons ?_ (sv_map hv hr)
    dsimp only
    by_cases h : s.1 = k
    · rw [if_pos h, if_pos (show kv.1 = .inr k by rw [h1, h])]
      exact ⟨h1, hv⟩
    · rw [if_neg h, if_neg (show ¬ kv.1 = (.inr k : Key) from fun e => h (by rw [h1] at e; injection e))]
      exact ⟨h1, h2⟩
theorem sv_snoc {k : Str} {a : α} {v : V} (hv : R a v) : ∀ {ss : List (Str × α)} {kvs : List (Key × V)}, Paired (SV R) ss kvs → Paired (SV R) (ss ++ [(k, a)]) (kvs ++ [((.inr k : Key), v)])
  | _, _, .nil => .cons ⟨rfl, hv⟩ .nil
  | s :: ss, kv :: kvs, .cons h hr => .cons h (sv_snoc hv hr)
theorem sv_put {k : Str} {a : α} {v : V} {ss : List (Str × α)} {kvs : List (Key × V)} (h : Paired (SV R) ss kvs) (hv : R a v) : Paired (SV R) (putS ss k a) (putK kvs (.inr k) v) := by
  unfold putS putK
  rw [sv_any h]
  split
  · exact sv_map hv h
  · exact sv_snoc hv h
theorem sv_imp {R' : α → V → Prop} (i : ∀ a v, R a v → R' a v) : ∀ {ss : List (Str × α)} {kvs : List (Key × V)}, Paired (SV R) ss kvs → Paired (SV R') ss kvs
  | _, _, .nil => .nil
  | s :: ss, kv :: kvs, .cons ⟨h1, h2⟩ hr => .cons ⟨h1, i _ _ h2⟩ (sv_imp i hr)
theorem sv_len : ∀ {ss : List (Str × α)} {kvs : List (Key × V)}, Paired (SV R) ss kvs → kvs.length = ss.length
  | _, _, .nil => rfl
  | s :: ss, kv :: kvs, .cons _ hr => congrArg Nat.succ (sv_len hr)
theorem sv_at {kv : Key × V} : ∀ {ss : List (Str × α)} {kvs : List (Key × V)} {i : Nat}, Paired (SV R) ss kvs → kvs[i]? = some kv → ∃ s, ss[i]? = some s ∧ SV R s kv
  | _, _, 0, .cons h hr, e => by injection e with e; exact ⟨_, rfl, e ▸ h⟩
  | _, _, i + 1, .cons h hr, e => sv_at (i := i) hr e
theorem putS_len (ss : List (Str × α)) (k : Str) (v : α) : (putS ss k v).length ≤ ss.length + 1 := by
  unfold putS
  split
  · rw [List.length_map]; omega
  · rw [List.length_append]; exact Nat.le_refl _
theorem putS_all {Q : α → Prop} {ss : List (Str × α)} {k : Str} {v : α} (h : ∀ x ∈ ss, Q x.2) (hv : Q v) : ∀ x ∈ putS ss k v, Q x.2 := by
  unfold putS
  split
  · intro x hx
    obtain ⟨y, hy, rfl⟩ := List.mem_map.mp hx
    by_cases e : y.1 = k
    · rw [if_pos e]; exact hv
    · rw [if_neg e]; exact h y hy
  · intro x hx
    rcases List.mem_append.mp hx with hx | hx
    · exact h x hx
    · rw [List.mem_singleton.mp hx]; exact hv
theorem getS_mem {ss : List (Str × α)} {k : Str} {a : α} (h : getS ss k = some a) : ∃ x ∈ ss, x.2 = a := by
  unfold getS at h
  obtain ⟨x, h1, h2⟩ := Option.map_eq_some_iff.mp h
  exact ⟨x, List.mem_of_find?_eq_some h1, h2⟩
end
/-! ## the year, as data -/
@[reducible] def tupN (n : Int) : PyData → Bool
  | .tuple xs => decide ((xs.length : Int) = n)
  | _ => false
def tuplesB (d : PyData) (most wide : Int) : Bool := match d with
  | .list ds => !decide (most < (ds.length : Int)) && ds.all (tupN wide)
  | _ => false
def upB (seen : List Str) (a : PyData) : Bool := dIs a "" || dIn a seen
def headsGo : List Str → List PyData → Bool
  | _, [] => true
  | seen, .tuple [.str n, a] :: r => (nameS n && (!decide (n ∈ seen) && upB seen a)) && headsGo (seen ++ [n]) r
  | _, _ => false
def headsB (d : PyData) : Bool := match d with
  | .list ds => tuplesB (.list ds) 8 2 && (!ds.isEmpty && headsGo [] ds)
  | _ => false
def GRT : Int := 1000000000000000
def limB (ns : List Str) (days : Int) : PyData → Bool
  | .tuple [h, f, l, m] => (dIn h ns && (withinD f 1 days && (match f with | .int i => withinD l i days | _ => false))) && withinD m 0 GRT
  | _ => false
def limitsB (d : PyData) (ns : List Str) (days : Int) : Bool := match d with
  | .list ds => tuplesB (.list ds) 6 4 && ds.all (limB ns days)
  | _ => false
abbrev Sums := List (Str × (Int × Int))
def sumS (ss : Sums) (h : Str) (p w : Int) : Sums := putS ss h (((getS ss h).getD (0, 1)).1 * w + p * ((getS ss h).getD (0, 1)).2, ((getS ss h).getD (0, 1)).2 * w)
def ruleOk (ns : List Str) (days : Int) (h : PyData) (p w u : PyData) : Bool := dIn h ns && (withinD w 1 1000 && (match w with | .int i => withinD p 0 i | _ => false)) && withinD u 2 (days + 1)
def ruleGo (ns : List Str) (days : Int) : Sums → List PyData → Option Sums
  | ss, [] => some ss
  | ss, .tuple [h, p, w, u] :: r => if ruleOk ns days h p w u = true then (match h, p, w with | .str h, .int p, .int w => ruleGo ns days (sumS ss h p w) r | _, _, _ => none) else none
  | _, _ => none
def rulesB (d : PyData) (ns : List Str) (days : Int) : Bool := match d with
  | .list ds => tuplesB (.list ds) 4 4 && (match ruleGo ns days [] ds with | some ss => ss.all (fun x => decide (x.2.1 ≤ x.2.2)) | none => false)
  | _ => false
def hD (p : Str × Str) : PyData := .tuple [.str p.1, .str p.2]
theorem tuplesB_list {d : PyData} {m n : Int} (h : tuplesB d m n = true) : ∃ ds, d = .list ds ∧ (ds.length : Int) ≤ m ∧ ∀ x ∈ ds, tupN n x = true := by
  cases d with
  | list ds =>
    obtain ⟨h1, h2⟩ := He.ba (show (!decide (m < (ds.length : Int)) && ds.all (tupN n)) = true from h)
    have h3 : ¬ m < (ds.length : Int) := by simpa using h1
    exact ⟨ds, rfl, by omega, List.all_eq_true.mp h2⟩
  | _ => cases h
theorem tupN_2 {d : PyData} (h : tupN 2 d = true) : ∃ x y, d = .tuple [x, y] := by
  cases d with
  | tuple xs =>
    have h : (xs.length : Int) = 2 := of_decide_eq_true h
    match xs, h with
    | [x, y], _ => exact ⟨x, y, rfl⟩
  | _ => cases h
theorem tupN_4 {d : PyData} (h : tupN 4 d = true) : ∃ x y z t, d = .tuple [x, y, z, t] := by
  cases d with
  | tuple xs =>
    have h : (xs.length : Int) = 4 := of_decide_eq_true h
    match xs, h with
    | [x, y, z, t], _ => exact ⟨x, y, z, t, rfl⟩
  | _ => cases h
theorem headsGo_no {seen : List Str} {x a : PyData} {r : List PyData} (h : dNm x = false) : headsGo seen (.tuple [x, a] :: r) = false := by
  cases x with
  | str s =>
    show ((nameS s && (!decide (s ∈ seen) && upB seen a)) && headsGo (seen ++ [s]) r) = false
    rw [show nameS s = false from h]
    rfl
  | _ => rfl
theorem drop_at {α : Type} {xs : List α} {i : Nat} {x : α} (h : xs[i]? = some x) : xs.drop i = x :: xs.drop (i + 1) := by
  obtain ⟨hi, rfl⟩ := List.getElem?_eq_some_iff.mp h
  exact List.drop_eq_getElem_cons hi
/-- heads in their order: each name new, each above it in place -/
def HO_ : List Str → List (Str × Str) → Prop
  | _, [] => True
  | seen, p :: r => nameS p.1 = true ∧ p.1 ∉ seen ∧ (p.2 = "" ∨ p.2 ∈ seen) ∧ HO_ (seen ++ [p.1]) r
theorem heads_go : ∀ {seen : List Str} {ds : List PyData}, headsGo seen ds = true → ∃ hs, ds = hs.map hD ∧ HO_ seen hs
  | _, [], _ => ⟨[], rfl, trivial⟩
  | seen, d :: r, h => by
    match d, h with
    | .tuple [.str n, a], h =>
      have h' : ((nameS n && (!decide (n ∈ seen) && upB seen a)) && headsGo (seen ++ [n]) r) = true := h
      simp only [Bool.and_eq_true, Bool.not_eq_true', decide_eq_false_iff_not] at h'
      obtain ⟨⟨h1, h2, h3⟩, h4⟩ := h'
      obtain ⟨hs, rfl, ho⟩ := heads_go h4
      cases a with
      | str s =>
        refine ⟨(n, s) :: hs, rfl, h1, h2, ?_, ho⟩
        simpa [upB, dIs, dIn] using h3
      | _ => simp [upB, dIs, dIn] at h3
theorem go_heads : ∀ {seen : List Str} {hs : List (Str × Str)}, HO_ seen hs → headsGo seen (hs.map hD) = true
  | _, [], _ => rfl
  | seen, p :: r, ⟨h1, h2, h3, h4⟩ => by
    have h5 := go_heads h4
    show ((nameS p.1 && (!decide (p.1 ∈ seen) && upB seen (.str p.2))) && headsGo (seen ++ [p.1]) (r.map hD)) = true
    rw [h1, decide_eq_false h2, h5]
    have : upB seen (.str p.2) = true := by
      rcases h3 with h3 | h3
      · simp [upB, dIs, h3]
      · simp [upB, dIn, h3]
    rw [this]
    rfl
structure Heads (hs : List (Str × Str)) : Prop where
  ne : hs ≠ []
  le : hs.length ≤ 8
  ok : HO_ [] hs
theorem heads_of {d : PyData} (h : headsB d = true) : ∃ hs, d = .list (hs.map hD) ∧ Heads hs := by
  cases d with
  | list ds =>
    have h' : ((!decide ((8 : Int) < (ds.length : Int)) && ds.all (tupN 2)) && (!ds.isEmpty && headsGo [] ds)) = true := h
    simp only [Bool.and_eq_true, Bool.not_eq_true', decide_eq_false_iff_not] at h'
    obtain ⟨⟨h1, _⟩, h2, h3⟩ := h'
    obtain ⟨hs, rfl, ho⟩ := heads_go h3
    rw [List.length_map] at h1
    exact ⟨hs, rfl, by rintro rfl; simp at h2, by omega, ho⟩
  | _ => cases h
theorem Heads.b {hs : List (Str × Str)} (h : Heads hs) : headsB (.list (hs.map hD)) = true := by
  show ((!decide ((8 : Int) < ((hs.map hD).length : Int)) && (hs.map hD).all (tupN 2)) && (!(hs.map hD).isEmpty && headsGo [] (hs.map hD))) = true
  rw [List.length_map, decide_eq_false (by have := h.le; omega), go_heads h.ok]
  have e1 : (hs.map hD).all (tupN 2) = true := by
    rw [List.all_map]
    exact List.all_eq_true.mpr fun _ _ => rfl
  rw [e1]
  cases hs with
  | nil => exact (h.ne rfl).elim
  | cons a r => rfl
theorem ho_nm : ∀ {seen : List Str} {hs : List (Str × Str)}, HO_ seen hs → ∀ p ∈ hs, nameS p.1 = true ∧ p.2.length ≤ 8 ∨ p.2 ∈ seen ∧ nameS p.1 = true
  | _, [], _, p, hp => nomatch hp
  | seen, q :: r, ⟨h1, h2, h3, h4⟩, p, hp => by
    rcases List.mem_cons.mp hp with rfl | hp
    · rcases h3 with h3 | h3
      · exact .inl ⟨h1, by rw [h3]; decide +kernel⟩
      · exact .inr ⟨h3, h1⟩
    · rcases ho_nm h4 p hp with h | ⟨h, h'⟩
      · exact .inl h
      · rcases List.mem_append.mp h with h | h
        · exact .inr ⟨h, h'⟩
        · rw [List.mem_singleton] at h
          exact .inl ⟨h', by rw [h]; exact (nameS_len h1).1⟩
theorem Heads.nm {hs : List (Str × Str)} (h : Heads hs) {p : Str × Str} (hp : p ∈ hs) : nameS p.1 = true ∧ p.2.length ≤ 8 := by
  rcases ho_nm h.ok p hp with h | h
  · exact h
  · exact nomatch h.1
/-- the one above -/
def upO (hs : List (Str × Str)) (n : Str) : Option Str := (hs.find? fun p => decide (p.1 = n)).map (·.2)
def upN (hs : List (Str × Str)) (n : Str) : Str := (upO hs n).getD ""
theorem upO_some {hs : List (Str × Str)} {n : Str} (h : n ∈ hs.map (·.1)) : ∃ a, upO hs n = some a ∧ (n, a) ∈ hs := by
  obtain ⟨p, hp, rfl⟩ := List.mem_map.mp h
  unfold upO
  cases e : hs.find? fun q => decide (q.1 = p.1) with
  | none => exact absurd (List.find?_eq_none.mp e p hp) (by simp)
  | some q =>
    have h1 := List.find?_some e
    have h2 := List.mem_of_find?_eq_some e
    exact ⟨q.2, rfl, by rw [← of_decide_eq_true h1]; exact h2⟩
theorem ho_up : ∀ {seen : List Str} {hs : List (Str × Str)}, HO_ seen hs → ∀ p ∈ hs, p.2 = "" ∨ p.2 ∈ seen ∨ p.2 ∈ hs.map (·.1)
  | _, [], _, p, hp => nomatch hp
  | seen, q :: r, ⟨h1, h2, h3, h4⟩, p, hp => by
    rcases List.mem_cons.mp hp with rfl | hp
    · rcases h3 with h3 | h3
      · exact .inl h3
      · exact .inr (.inl h3)
    · rcases ho_up h4 p hp with h | h | h
      · exact .inl h
      · rcases List.mem_append.mp h with h | h
        · exact .inr (.inl h)
        · rw [List.mem_singleton] at h
          exact .inr (.inr (by rw [h]; exact List.mem_cons_self ..))
      · exact .inr (.inr (List.mem_cons_of_mem _ h))
theorem Heads.up {hs : List (Str × Str)} (h : Heads hs) {n : Str} (hn : n ∈ hs.map (·.1)) : upN hs n = "" ∨ upN hs n ∈ hs.map (·.1) := by
  obtain ⟨a, e, hp⟩ := upO_some hn
  unfold upN
  rw [e]
  rcases ho_up h.ok _ hp with h | h | h
  · exact .inl h
  · exact nomatch h
  · exact .inr h
/-- the knots from a name up -/
def knotsF (hs : List (Str × Str)) : Nat → Str → List Str
  | 0, _ => []
  | k + 1, n => if n = "" then [] else n :: knotsF hs k (upN hs n)
def knotsN (hs : List (Str × Str)) (n : Str) : List Str := knotsF hs hs.length n
def underN (hs : List (Str × Str)) (n : Str) : List Str := (hs.map (·.1)).filter fun o => decide (n ∈ knotsN hs o)
theorem knotsF_len {hs : List (Str × Str)} : ∀ {k : Nat} {n : Str}, (knotsF hs k n).length ≤ k
  | 0, _ => Nat.le_refl _
  | k + 1, n => by
    unfold knotsF
    split
    · exact Nat.zero_le _
    · exact Nat.succ_le_succ knotsF_len
theorem knotsF_mem {hs : List (Str × Str)} (h : Heads hs) : ∀ {k : Nat} {n : Str}, n ∈ hs.map (·.1) → ∀ x ∈ knotsF hs k n, x ∈ hs.map (·.1)
  | 0, _, _, x, hx => nomatch hx
  | k + 1, n, hn, x, hx => by
    unfold knotsF at hx
    split at hx
    · exact nomatch hx
    · rcases List.mem_cons.mp hx with rfl | hx
      · exact hn
      · rcases h.up hn with e | e
        · rw [e] at hx
          cases k with
          | zero => exact nomatch hx
          | succ k => unfold knotsF at hx; rw [if_pos rfl] at hx; exact nomatch hx
        · exact knotsF_mem h e x hx
theorem Heads.nmem {hs : List (Str × Str)} (h : Heads hs) {n : Str} (hn : n ∈ hs.map (·.1)) : nameS n = true := by
  obtain ⟨p, hp, rfl⟩ := List.mem_map.mp hn
  exact (h.nm hp).1
def yfs (days : Int) (a b c : Addr) : List (Str × V) := [("days", .int days), ("heads", .ref a), ("limits", .ref b), ("rules", .ref c)]
/-- a year in a heap -/
structure YearAt (K : PySem.W.Frag) (H : Hp) (y : Addr) (days : Int) (hs : List (Str × Str)) (ls rs : List PyData) : Prop where
  ex : ∃ dx a b c va vb vc, H y = some (.ins (He.ga K "Year") dx (yfs days a b c)) ∧
    H a = some (.lst va) ∧ DpAll K H va (hs.map hD) ∧ H b = some (.lst vb) ∧ DpAll K H vb ls ∧ H c = some (.lst vc) ∧ DpAll K H vc rs
  hd : Heads hs
theorem YearAt.same {K : PySem.W.Frag} {H H' : Hp} {y : Addr} {days : Int} {hs : List (Str × Str)} {ls rs : List PyData} (h : YearAt K H y days hs ls rs) (s : Same H H') : YearAt K H' y days hs ls rs := by
  obtain ⟨⟨dx, a, b, c, va, vb, vc, h1, h2, h3, h4, h5, h6, h7⟩, hd⟩ := h
  exact ⟨⟨dx, a, b, c, va, vb, vc, s.at_ h1, s.at_ h2, DpAll.same s h3, s.at_ h4, DpAll.same s h5, s.at_ h6, DpAll.same s h7⟩, hd⟩
/-- a row of the heads, read -/
theorem head_row {K : PySem.W.Frag} {H : Hp} {v : V} {p : Str × Str} (h : Dp K H v (hD p)) : ∃ t, v = .ref t ∧ SqT K H t [.str p.1, .str p.2] := by
  unfold hD at h
  cases h with
  | tup h1 h2 =>
    cases h2 with
    | cons a r =>
      cases r with
      | cons b r2 =>
        cases r2
        rw [dp_strI a, dp_strI b] at h1
        exact ⟨_, rfl, h1⟩
theorem heads_at {K : PySem.W.Frag} {H : Hp} {vs : List V} {hs : List (Str × Str)} {i : Nat} {x : V} (h : DpAll K H vs (hs.map hD)) (hx : vs[i]? = some x) : ∃ p t, hs[i]? = some p ∧ x = .ref t ∧ SqT K H t [.str p.1, .str p.2] := by
  obtain ⟨d, h1, h2⟩ := DpAll.at_ h hx
  rw [List.getElem?_map] at h1
  obtain ⟨p, h3, rfl⟩ := Option.map_eq_some_iff.mp h1
  obtain ⟨t, e, h4⟩ := head_row h2
  exact ⟨p, t, h3, e, h4⟩
end Kn

set_option Elab.async false
set_option linter.all false
set_option maxRecDepth 100000
set_option maxHeartbeats 2000000
namespace Kn
open PySem PySem.Spec PyProof.Rows L2
theorem cut_take {xs : List V} {k : Nat} : cutV xs none (some (k : Int)) = xs.take k := by
  unfold cutV
  rw [HT.sIx_nat]
  show (xs.drop 0).take (min k xs.length - 0) = xs.take k
  rw [List.drop_zero, Nat.sub_zero, List.take_eq_take_iff]
  omega
theorem cut_from {xs : List V} {k : Nat} : cutV xs (some (k : Int)) none = xs.drop k := by
  unfold cutV
  rw [HT.sIx_nat]
  show (xs.drop (min k xs.length)).take (xs.length - min k xs.length) = xs.drop k
  rw [List.take_of_length_le (by rw [List.length_drop]; exact Nat.le_refl _)]
  by_cases h : k ≤ xs.length
  · rw [Nat.min_eq_left h]
  · rw [Nat.min_eq_right (by omega), List.drop_length, List.drop_of_length_le (by omega)]
theorem atI_or {α : Type} {x y : α} {r : Int} {k : Int} (h0 : 0 ≤ r) (h1 : r < 2 * k) (hk : 0 < k) : atI [x, y] (r / k) = some x ∨ atI [x, y] (r / k) = some y := by
  have h2 : 0 ≤ r / k := Int.ediv_nonneg h0 (by omega)
  have h3 : r / k < 2 := Int.ediv_lt_of_lt_mul hk h1
  rcases (show r / k = 0 ∨ r / k = 1 by omega) with h | h
  · rw [h]; exact .inl (atI_nat (j := 0) rfl)
  · rw [h]; exact .inr (atI_nat (j := 1) rfl)
theorem atI_two {α : Type} {x y : α} {r : Int} (h0 : 0 ≤ r) (h1 : r < 2) : atI [x, y] r = some x ∨ atI [x, y] r = some y := by
  rcases (show r = 0 ∨ r = 1 by omega) with h | h
  · rw [h]; exact .inl (atI_nat (j := 0) rfl)
  · rw [h]; exact .inr (atI_nat (j := 1) rfl)
/-! ## heads -/
theorem ho_snoc : ∀ {seen : List Str} {hs : List (Str × Str)} {p : Str × Str}, HO_ seen hs → nameS p.1 = true → p.1 ∉ seen ++ hs.map (·.1) → (p.2 = "" ∨ p.2 ∈ seen ++ hs.map (·.1)) → HO_ seen (hs ++ [p])
  | seen, [], p, _, h1, h2, h3 => ⟨h1, by simpa using h2, by simpa using h3, trivial⟩
  | seen, q :: r, p, ⟨a, b, c, d⟩, h1, h2, h3 => by
    refine ⟨a, b, c, ho_snoc d h1 ?_ ?_⟩
    · simpa using h2
    · simpa using h3
theorem ho_out : ∀ {seen : List Str} {hs : List (Str × Str)}, HO_ seen hs → ∀ n ∈ hs.map (·.1), n ∉ seen
  | _, [], _, n, hn => nomatch hn
  | seen, p :: r, ⟨a, b, c, d⟩, n, hn => by
    rcases List.mem_cons.mp hn with rfl | hn
    · exact b
    · exact fun h => ho_out d n hn (List.mem_append_left _ h)
theorem ho_nd {seen : List Str} {p : Str × Str} {r : List (Str × Str)} (h : HO_ seen (p :: r)) : p.1 ∉ r.map (·.1) := fun hm => ho_out h.2.2.2 _ hm (List.mem_append_right _ (List.mem_singleton.mpr rfl))
theorem upN_cons {p : Str × Str} {r : List (Str × Str)} {n : Str} : upN (p :: r) n = if p.1 = n then p.2 else upN r n := by
  unfold upN upO
  rw [List.find?_cons]
  by_cases h : p.1 = n
  · rw [decide_eq_true h, if_pos h]; rfl
  · rw [decide_eq_false h, if_neg h]
theorem ho_upN : ∀ {seen : List Str} {hs : List (Str × Str)}, HO_ seen hs → ∀ p ∈ hs, upN hs p.1 = p.2
  | _, [], _, p, hp => nomatch hp
  | seen, q :: r, h, p, hp => by
    rw [upN_cons]
    rcases List.mem_cons.mp hp with rfl | hp
    · exact if_pos rfl
    · rw [if_neg (fun e => ho_nd h (by rw [e]; exact List.mem_map.mpr ⟨p, hp, rfl⟩))]
      exact ho_upN h.2.2.2 p hp
/-- dict(heads) -/
def kvH (hs : List (Str × Str)) : List (Key × V) := hs.map fun p => (.inr p.1, .str p.2)
theorem merge_heads : ∀ {seen : List Str} {hs : List (Str × Str)} {acc : List (Key × V)}, HO_ seen hs → ∀ n, valV (mergeK acc (kvH hs)) (.inr n) = if n ∈ hs.map (·.1) then some (.str (upN hs n)) else valV acc (.inr n)
  | _, [], _, _, n => by simp [kvH, mergeK]
  | seen, p :: r, acc, h, n => by
    have ih := merge_heads (acc := putK acc (.inr p.1) (.str p.2)) h.2.2.2 n
    show valV (mergeK (putK acc (.inr p.1) (.str p.2)) (kvH r)) (.inr n) = if n ∈ p.1 :: r.map (·.1) then some (.str (upN (p :: r) n)) else valV acc (.inr n)
    rw [ih, upN_cons]
    by_cases hn : n ∈ r.map (·.1)
    · rw [if_pos hn, if_pos (List.mem_cons_of_mem _ hn), if_neg (fun e => ho_nd h (by rw [e]; exact hn))]
    · rw [if_neg hn, valV_put]
      by_cases e : n = p.1
      · subst e
        rw [if_pos rfl, if_pos (List.mem_cons_self ..), if_pos rfl]
      · have e2 : ¬ (.inr n : Key) = .inr p.1 := fun z => e (by injection z)
        rw [if_neg e2, if_neg (fun z => by rcases List.mem_cons.mp z with z | z; exact e z; exact hn z)]
/-! ## limits and rules, typed -/
abbrev LimT := Str × Int × Int × Int
def lD (x : LimT) : PyData := .tuple [.str x.1, .int x.2.1, .int x.2.2.1, .int x.2.2.2]
def LimR (ns : List Str) (days : Int) (x : LimT) : Prop := x.1 ∈ ns ∧ (1 ≤ x.2.1 ∧ x.2.1 ≤ days) ∧ (x.2.1 ≤ x.2.2.1 ∧ x.2.2.1 ≤ days) ∧ 0 ≤ x.2.2.2 ∧ x.2.2.2 ≤ GRT
theorem limits_ok {ns : List Str} {days : Int} {xs : List LimT} (hl : xs.length ≤ 6) (h : ∀ x ∈ xs, LimR ns days x) : limitsB (.list (xs.map lD)) ns days = true := by
  show ((!decide ((6 : Int) < ((xs.map lD).length : Int)) && (xs.map lD).all (tupN 4)) && (xs.map lD).all (limB ns days)) = true
  rw [List.length_map, decide_eq_false (by omega), List.all_map, List.all_map]
  have e1 : xs.all (tupN 4 ∘ lD) = true := List.all_eq_true.mpr fun _ _ => rfl
  have e2 : xs.all (limB ns days ∘ lD) = true := List.all_eq_true.mpr fun x hx => by
    obtain ⟨h1, ⟨h2, h3⟩, ⟨h4, h5⟩, h6, h7⟩ := h x hx
    simp [limB, lD, dIn, withinD, h1, h2, h3, h4, h5, h6, h7]
  rw [e1, e2]
  rfl
def RuleR (ns : List Str) (days : Int) (x : LimT) : Prop := x.1 ∈ ns ∧ (0 ≤ x.2.1 ∧ x.2.1 ≤ x.2.2.1) ∧ (1 ≤ x.2.2.1 ∧ x.2.2.1 ≤ 1000) ∧ 2 ≤ x.2.2.2 ∧ x.2.2.2 ≤ days + 1
def sumsOf (xs : List LimT) : Sums := xs.foldl (fun ss x => sumS ss x.1 x.2.1 x.2.2.1) []
theorem sumsOf_snoc {xs : List LimT} {x : LimT} : sumsOf (xs ++ [x]) = sumS (sumsOf xs) x.1 x.2.1 x.2.2.1 := by
  unfold sumsOf
  rw [List.foldl_append]
  rfl
theorem ruleR_ok {ns : List Str} {days : Int} {x : LimT} (h : RuleR ns days x) : ruleOk ns days (.str x.1) (.int x.2.1) (.int x.2.2.1) (.int x.2.2.2) = true := by
  obtain ⟨h1, ⟨h2, h3⟩, ⟨h4, h5⟩, h6, h7⟩ := h
  simp [ruleOk, dIn, withinD, h1, h2, h3, h4, h5, h6, h7]
theorem ruleGo_fold {ns : List Str} {days : Int} : ∀ {xs : List LimT} {ss : Sums}, (∀ x ∈ xs, RuleR ns days x) → ruleGo ns days ss (xs.map lD) = some (xs.foldl (fun ss x => sumS ss x.1 x.2.1 x.2.2.1) ss)
  | [], _, _ => rfl
  | x :: r, ss, h => by
    have h1 := ruleR_ok (h x (List.mem_cons_self ..))
    have ih := ruleGo_fold (xs := r) (ss := sumS ss x.1 x.2.1 x.2.2.1) fun y hy => h y (List.mem_cons_of_mem _ hy)
    show (if ruleOk ns days (.str x.1) (.int x.2.1) (.int x.2.2.1) (.int x.2.2.2) = true then ruleGo ns days (sumS ss x.1 x.2.1 x.2.2.1) (r.map lD) else none) = _
    rw [if_pos h1, ih]
    rfl
theorem rules_ok {ns : List Str} {days : Int} {xs : List LimT} (hl : xs.length ≤ 4) (h : ∀ x ∈ xs, RuleR ns days x) (hs : ∀ s ∈ sumsOf xs, s.2.1 ≤ s.2.2) : rulesB (.list (xs.map lD)) ns days = true := by
  show ((!decide ((4 : Int) < ((xs.map lD).length : Int)) && (xs.map lD).all (tupN 4)) && (match ruleGo ns days [] (xs.map lD) with | some ss => ss.all (fun x => decide (x.2.1 ≤ x.2.2)) | none => false)) = true
  rw [List.length_map, decide_eq_false (by omega), List.all_map, ruleGo_fold h]
  have e1 : xs.all (tupN 4 ∘ lD) = true := List.all_eq_true.mpr fun _ _ => rfl
  rw [e1]
  show (!false && true && (sumsOf xs).all (fun x => decide (x.2.1 ≤ x.2.2))) = true
  rw [List.all_eq_true.mpr fun s hm => decide_eq_true (hs s hm)]
  rfl
theorem lD_noL {x : LimT} : noL (lD x) = true := rfl
theorem hD_noL {x : Str × Str} : noL (hD x) = true := rfl
theorem map_noL {α : Type} {f : α → PyData} (h : ∀ x, noL (f x) = true) {xs : List α} : noLs (xs.map f) = true := noLs_of fun d hd => by
  obtain ⟨x, _, rfl⟩ := List.mem_map.mp hd
  exact h x
def NmsOk (hs : List (Str × Str)) : Prop := ∀ s ∈ hs.map (·.1), PyData.strOk s = true ∧ s.length ≤ 8
theorem hD_fit {hs : List (Str × Str)} (hh : Heads hs) (h : NmsOk hs) {p : Str × Str} (hp : p ∈ hs) : FitN 2 (hD p) := FitN.tup (n := 1) fun d hd => by
  have m : p.1 ∈ hs.map (·.1) := List.mem_map.mpr ⟨p, hp, rfl⟩
  rcases (show d = .str p.1 ∨ d = .str p.2 by simpa using hd) with rfl | rfl
  · exact .str (h _ m).1 (by have := (h _ m).2; omega)
  · rcases ho_up hh.ok p hp with e | e | e
    · rw [e]; exact .em
    · exact nomatch e
    · exact .str (h _ e).1 (by have := (h _ e).2; omega)
theorem lD_fit {x : LimT} (h : PyData.strOk x.1 = true ∧ x.1.length ≤ 8) : FitN 2 (lD x) := FitN.tup (n := 1) fun d hd => by
  rcases (show d = .str x.1 ∨ d = .int x.2.1 ∨ d = .int x.2.2.1 ∨ d = .int x.2.2.2 by simpa using hd) with rfl | rfl | rfl | rfl
  · exact .str h.1 (by have := h.2; omega)
  · exact .int
  · exact .int
  · exact .int
theorem fit_map {α : Type} {f : α → PyData} {n : Nat} {xs : List α} (h : ∀ x ∈ xs, FitN n (f x)) : FitN (n + 1) (.list (xs.map f)) := FitN.lst fun d hd => by
  obtain ⟨x, hx, rfl⟩ := List.mem_map.mp hd
  exact h x hx
theorem Dr.sameT {w : Addr} {H H' : Hp} (h0 : WellAt H w) (d : Dr w H H') : SameT H H' := fun a o e n => by
  by_cases q : a = w
  · obtain ⟨x, y, z, e2⟩ := h0
    rw [q, e2] at e
    injection e with e
    exact (n _ e.symm).elim
  · exact d.but a o q e
theorem hid_sameT {l : Addr} {H H' : Hp} (s : SameT H H') : SameT (hid l H) (hid l H') := fun a o e n => by
  obtain ⟨h1, h2⟩ := hid_at e
  exact hid_of (s a o h1 n) h2
/-! ## what the law's year is -/
def strsD (ns : List Str) : PyData := .list (ns.map .str)
def allD (hs : List (Str × Str)) : List PyData := hs.map fun p => .tuple [.str p.2, strsD (knotsN hs p.1), strsD (underN hs p.1)]
def dueD (days : Int) (hs : List (Str × Str)) (ls rs : List PyData) : PyData := .list ([.int days, .list (hs.map hD), .list ls, .list rs, strsD (hs.map (·.1))] ++ allD hs)
theorem strs_fit {ns : List Str} (h : ∀ s ∈ ns, PyData.strOk s = true ∧ s.length ≤ 8) : FitN 2 (strsD ns) := fit_map (n := 1) fun s hs => .str (h s hs).1 (by have := (h s hs).2; omega)
theorem knots_in {hs : List (Str × Str)} (hh : Heads hs) {n : Str} (hn : n ∈ hs.map (·.1)) : ∀ s ∈ knotsN hs n, s ∈ hs.map (·.1) := knotsF_mem hh hn
theorem under_in {hs : List (Str × Str)} {n : Str} : ∀ s ∈ underN hs n, s ∈ hs.map (·.1) := fun s h => (List.mem_filter.mp h).1
theorem up_ok {hs : List (Str × Str)} (hh : Heads hs) (h : NmsOk hs) {p : Str × Str} (hp : p ∈ hs) : FitN 2 (.str p.2) := by
  rcases ho_up hh.ok p hp with e | e | e
  · rw [e]; exact .em
  · exact nomatch e
  · exact .str (h _ e).1 (by have := (h _ e).2; omega)
theorem FitN.mono {n m : Nat} {d : PyData} (h : FitN n d) (l : n ≤ m) : FitN m d := ⟨h.can, Nat.le_trans h.dep l, h.sm⟩
theorem due_fit {days : Int} {hs : List (Str × Str)} {ls rs : List LimT} (hh : Heads hs) (h : NmsOk hs) (hl : ∀ x ∈ ls, x.1 ∈ hs.map (·.1)) (hr : ∀ x ∈ rs, x.1 ∈ hs.map (·.1)) : Fit (dueD days hs (ls.map lD) (rs.map lD)) := by
  refine (FitN.lst (n := 3) fun d hd => ?_).fit (by omega)
  rcases List.mem_append.mp hd with hd | hd
  · rcases (show d = .int days ∨ d = .list (hs.map hD) ∨ d = .list (ls.map lD) ∨ d = .list (rs.map lD) ∨ d = strsD (hs.map (·.1)) by simpa using hd) with rfl | rfl | rfl | rfl | rfl
    · exact .int
    · exact fit_map fun p hp => hD_fit hh h hp
    · exact fit_map fun x hx => lD_fit (h _ (hl x hx))
    · exact fit_map fun x hx => lD_fit (h _ (hr x hx))
    · exact (strs_fit h).mono (by omega)
  · obtain ⟨p, hp, rfl⟩ := List.mem_map.mp hd
    have hm : p.1 ∈ hs.map (·.1) := List.mem_map.mpr ⟨p, hp, rfl⟩
    refine FitN.tup (n := 2) fun e he => ?_
    rcases (show e = .str p.2 ∨ e = strsD (knotsN hs p.1) ∨ e = strsD (underN hs p.1) by simpa using he) with rfl | rfl | rfl
    · exact up_ok hh h hp
    · exact strs_fit fun s hs => h s (knots_in hh hm s hs)
    · exact strs_fit fun s hs => h s (under_in s hs)
end Kn
namespace Kn
open PySem PySem.Spec PyProof.Rows L2
def Fr (ws : List Addr) (H : Hp) : Prop := ∀ x ∈ ws, H x ≠ none
theorem Fr.same {ws : List Addr} {H H' : Hp} (f : Fr ws H) (s : Same H H') : Fr ws H' := fun x hx e => f x hx (free_of s e)
theorem Fr.nin {ws : List Addr} {H H' : Hp} {p : Addr} (f : Fr ws H) (s : Same H H') (h : H' p = none) : p ∉ ws := fun m => f p m (free_of s h)
theorem same_hidL {ws : List Addr} {H H' : Hp} (s : Same H H') (h : ∀ w ∈ ws, H w = none) : Same H (hidL ws H') := fun b o e => hidL_of (s b o e) fun m => by rw [h b m] at e; cases e
theorem heads_refs {K : PySem.W.Frag} {H : Hp} : ∀ {hs : List (Str × Str)} {va : List V}, DpAll K H va (hs.map hD) → ∃ ps, va = ps.map V.ref ∧ Paired (fun p (kv : Key × V) => SqT K H p [kV kv.1, kv.2]) ps (kvH hs)
  | [], va, h => ⟨[], dpall_nil h, .nil⟩
  | p :: r, va, h => by
    obtain ⟨x, r', rfl, h1, h2⟩ := dpall_cons h
    obtain ⟨t, rfl, h3⟩ := head_row h1
    obtain ⟨ps, rfl, h4⟩ := heads_refs h2
    exact ⟨t :: ps, rfl, .cons h3 h4⟩
/-- the parts of a year, in a heap -/
structure Parts (K : PySem.W.Frag) (H : Hp) (pl h l r : Addr) (days : Int) (hs : List (Str × Str)) (ls rs : List LimT) : Prop where
  at_ : H pl = some (.lst [.int days, .ref h, .ref l, .ref r])
  ah : ∃ va, H h = some (.lst va) ∧ DpAll K H va (hs.map hD)
  al : ∃ vb, H l = some (.lst vb) ∧ DpAll K H vb (ls.map lD)
  ar : ∃ vc, H r = some (.lst vc) ∧ DpAll K H vc (rs.map lD)
  hh : Heads hs
  nm : NmsOk hs
  d1 : 1 ≤ days
  d2 : days ≤ 30
  l6 : ls.length ≤ 6
  lr : ∀ x ∈ ls, LimR (hs.map (·.1)) days x
  r4 : rs.length ≤ 4
  rr : ∀ x ∈ rs, RuleR (hs.map (·.1)) days x
  su : ∀ m, ∀ s ∈ sumsOf (rs.take m), s.2.1 ≤ s.2.2
theorem Parts.sums {K : PySem.W.Frag} {H : Hp} {pl h l r : Addr} {days : Int} {hs : List (Str × Str)} {ls rs : List LimT} (p : Parts K H pl h l r days hs ls rs) : ∀ s ∈ sumsOf rs, s.2.1 ≤ s.2.2 := by
  have := p.su rs.length
  rwa [List.take_length] at this
theorem Parts.same {K : PySem.W.Frag} {H H' : Hp} {pl h l r : Addr} {days : Int} {hs : List (Str × Str)} {ls rs : List LimT} (p : Parts K H pl h l r days hs ls rs) (s : Same H H') : Parts K H' pl h l r days hs ls rs := by
  obtain ⟨va, a1, a2⟩ := p.ah
  obtain ⟨vb, b1, b2⟩ := p.al
  obtain ⟨vc, c1, c2⟩ := p.ar
  exact ⟨s.at_ p.at_, ⟨va, s.at_ a1, DpAll.same s a2⟩, ⟨vb, s.at_ b1, DpAll.same s b2⟩, ⟨vc, s.at_ c1, DpAll.same s c2⟩, p.hh, p.nm, p.d1, p.d2, p.l6, p.lr, p.r4, p.rr, p.su⟩
def allOne (hs : List (Str × Str)) (p : Str × Str) : PyData := .tuple [.str p.2, strsD (knotsN hs p.1), strsD (underN hs p.1)]
theorem allD_is {hs : List (Str × Str)} : allD hs = hs.map (allOne hs) := rfl
end Kn

set_option Elab.async false
set_option linter.all false
set_option maxRecDepth 100000
set_option maxHeartbeats 0
namespace Kn
open PySem PySem.Spec PyProof.Rows L2
def top (i : Nat) : Stmt := PySem.Challenge.pw_knotpurse_k08_whole_years_by_turns.main.body.getD i (.Pass ⟨0, 0, 0, 0⟩)
abbrev s_is_whole : Stmt := top 7
abbrev nm_is_whole : List Str := ["thing"]
theorem sc_is_whole : FnScope nm_is_whole ["thing"] (defScope s_is_whole) := ⟨rfl, rfl, rfl, by decide +kernel, rfl, by decide +kernel, by decide +kernel⟩
abbrev s_within : Stmt := top 8
abbrev nm_within : List Str := ["thing", "least", "most"]
theorem sc_within : FnScope nm_within ["thing", "least", "most"] (defScope s_within) := ⟨rfl, rfl, rfl, by decide +kernel, rfl, by decide +kernel, by decide +kernel⟩
abbrev s_is_name : Stmt := top 9
abbrev nm_is_name : List Str := ["thing"]
theorem sc_is_name : FnScope nm_is_name ["thing"] (defScope s_is_name) := ⟨rfl, rfl, rfl, by decide +kernel, rfl, by decide +kernel, by decide +kernel⟩
abbrev s_are_tuples : Stmt := top 17
abbrev nm_are_tuples : List Str := ["thing", "most", "wide", "row"]
theorem sc_are_tuples : FnScope nm_are_tuples ["thing", "most", "wide"] (defScope s_are_tuples) := ⟨rfl, rfl, rfl, by decide +kernel, rfl, by decide +kernel, by decide +kernel⟩
abbrev s_are_heads : Stmt := top 18
abbrev nm_are_heads : List Str := ["heads", "seen", "name", "above"]
theorem sc_are_heads : FnScope nm_are_heads ["heads"] (defScope s_are_heads) := ⟨rfl, rfl, rfl, by decide +kernel, rfl, by decide +kernel, by decide +kernel⟩
abbrev s_are_limits : Stmt := top 19
abbrev nm_are_limits : List Str := ["limits", "names", "days", "head", "first", "last", "most"]
theorem sc_are_limits : FnScope nm_are_limits ["limits", "names", "days"] (defScope s_are_limits) := ⟨rfl, rfl, rfl, by decide +kernel, rfl, by decide +kernel, by decide +kernel⟩
abbrev s_are_rules : Stmt := top 20
abbrev nm_are_rules : List Str := ["rules", "names", "days", "sums", "head", "part", "whole", "until", "top", "bottom"]
theorem sc_are_rules : FnScope nm_are_rules ["rules", "names", "days"] (defScope s_are_rules) := ⟨rfl, rfl, rfl, by decide +kernel, rfl, by decide +kernel, by decide +kernel⟩
abbrev s_Year___init__ : Stmt := inClass (top 21) 0
abbrev nm_Year___init__ : List Str := ["self", "days", "heads", "limits", "rules", "names", "name", "above"]
theorem sc_Year___init__ : FnScope nm_Year___init__ ["self", "days", "heads", "limits", "rules"] (defScope s_Year___init__) := ⟨rfl, rfl, rfl, by decide +kernel, rfl, by decide +kernel, by decide +kernel⟩
abbrev s_Year_names : Stmt := inClass (top 21) 1
abbrev nm_Year_names : List Str := ["self", "name", "above"]
theorem sc_Year_names : FnScope nm_Year_names ["self"] (defScope s_Year_names) := ⟨rfl, rfl, rfl, by decide +kernel, rfl, by decide +kernel, by decide +kernel⟩
abbrev s_Year_above : Stmt := inClass (top 21) 2
abbrev nm_Year_above : List Str := ["self", "name", "one", "higher"]
theorem sc_Year_above : FnScope nm_Year_above ["self", "name"] (defScope s_Year_above) := ⟨rfl, rfl, rfl, by decide +kernel, rfl, by decide +kernel, by decide +kernel⟩
abbrev s_Year_knots : Stmt := inClass (top 21) 3
abbrev nm_Year_knots : List Str := ["self", "name", "found", "at", "higher", "turn"]
theorem sc_Year_knots : FnScope nm_Year_knots ["self", "name"] (defScope s_Year_knots) := ⟨rfl, rfl, rfl, by decide +kernel, rfl, by decide +kernel, by decide +kernel⟩
abbrev s_Year_under : Stmt := inClass (top 21) 4
abbrev nm_Year_under : List Str := ["self", "name", "one"]
theorem sc_Year_under : FnScope nm_Year_under ["self", "name"] (defScope s_Year_under) := ⟨rfl, rfl, rfl, by decide +kernel, rfl, by decide +kernel, by decide +kernel⟩
abbrev s_Lcell_at : Stmt := top 23
abbrev nm_Lcell_at : List Str := ["_law_script", "_law_k"]
theorem sc_Lcell_at : FnScope nm_Lcell_at ["_law_script", "_law_k"] (defScope s_Lcell_at) := ⟨rfl, rfl, rfl, by decide +kernel, rfl, by decide +kernel, by decide +kernel⟩
abbrev s_Lwell : Stmt := top 24
abbrev nm_Lwell : List Str := ["_law_cell"]
theorem sc_Lwell : FnScope nm_Lwell ["_law_cell"] (defScope s_Lwell) := ⟨rfl, rfl, rfl, by decide +kernel, rfl, by decide +kernel, by decide +kernel⟩
abbrev s_Ldraw : Stmt := top 25
abbrev nm_Ldraw : List Str := ["_law_well_here", "_law_many", "_law_found", "_law_number"]
theorem sc_Ldraw : FnScope nm_Ldraw ["_law_well_here", "_law_many"] (defScope s_Ldraw) := ⟨rfl, rfl, rfl, by decide +kernel, rfl, by decide +kernel, by decide +kernel⟩
abbrev s_Lname : Stmt := top 26
abbrev nm_Lname : List Str := ["_law_well_here", "_law_some", "_law_signs", "_law_k"]
theorem sc_Lname : FnScope nm_Lname ["_law_well_here"] (defScope s_Lname) := ⟨rfl, rfl, rfl, by decide +kernel, rfl, by decide +kernel, by decide +kernel⟩
abbrev s_Lnames : Stmt := top 27
abbrev nm_Lnames : List Str := ["_law_well_here", "_law_many", "_law_found", "_law_k", "_law_name_here", "_law_some", "_law_sign", "_law_one"]
theorem sc_Lnames : FnScope nm_Lnames ["_law_well_here", "_law_many"] (defScope s_Lnames) := ⟨rfl, rfl, rfl, by decide +kernel, rfl, by decide +kernel, by decide +kernel⟩
abbrev s_Lheads : Stmt := top 28
abbrev nm_Lheads : List Str := ["_law_well_here", "_law_names_here", "_law_found", "_law_k"]
theorem sc_Lheads : FnScope nm_Lheads ["_law_well_here"] (defScope s_Lheads) := ⟨rfl, rfl, rfl, by decide +kernel, rfl, by decide +kernel, by decide +kernel⟩
abbrev s_Llimits : Stmt := top 29
abbrev nm_Llimits : List Str := ["_law_well_here", "_law_heads_here", "_law_days", "_law_found", "_law_k", "_law_first", "_law_last", "_law_most"]
theorem sc_Llimits : FnScope nm_Llimits ["_law_well_here", "_law_heads_here", "_law_days"] (defScope s_Llimits) := ⟨rfl, rfl, rfl, by decide +kernel, rfl, by decide +kernel, by decide +kernel⟩
abbrev s_Lrules : Stmt := top 30
abbrev nm_Lrules : List Str := ["_law_well_here", "_law_heads_here", "_law_days", "_law_found", "_law_sums", "_law_k", "_law_head", "_law_whole", "_law_part", "_law_top", "_law_bottom"]
theorem sc_Lrules : FnScope nm_Lrules ["_law_well_here", "_law_heads_here", "_law_days"] (defScope s_Lrules) := ⟨rfl, rfl, rfl, by decide +kernel, rfl, by decide +kernel, by decide +kernel⟩
abbrev s_Lparts : Stmt := top 31
abbrev nm_Lparts : List Str := ["_law_well_here", "_law_days", "_law_heads_here"]
theorem sc_Lparts : FnScope nm_Lparts ["_law_well_here"] (defScope s_Lparts) := ⟨rfl, rfl, rfl, by decide +kernel, rfl, by decide +kernel, by decide +kernel⟩
abbrev s_Lknots : Stmt := top 32
abbrev nm_Lknots : List Str := ["_law_heads_here", "_law_name_here", "_law_above", "_law_found", "_law_k"]
theorem sc_Lknots : FnScope nm_Lknots ["_law_heads_here", "_law_name_here"] (defScope s_Lknots) := ⟨rfl, rfl, rfl, by decide +kernel, rfl, by decide +kernel, by decide +kernel⟩
abbrev s_Lall : Stmt := top 33
abbrev nm_Lall : List Str := ["_law_heads_here", "_law_names_here", "_law_found", "_law_name_here", "_law_above", "_law_one"]
theorem sc_Lall : FnScope nm_Lall ["_law_heads_here"] (defScope s_Lall) := ⟨rfl, rfl, rfl, by decide +kernel, rfl, by decide +kernel, by decide +kernel⟩
abbrev s_Lasked : Stmt := top 34
abbrev nm_Lasked : List Str := ["_law_year", "_law_names_here", "_law_found", "_law_name_here", "_law_some"]
theorem sc_Lasked : FnScope nm_Lasked ["_law_year"] (defScope s_Lasked) := ⟨rfl, rfl, rfl, by decide +kernel, rfl, by decide +kernel, by decide +kernel⟩
abbrev s_Ldue : Stmt := top 35
abbrev nm_Ldue : List Str := ["_law_parts_here", "_law_days", "_law_heads_here", "_law_limits_here", "_law_rules_here", "_law_name_here", "_law_above"]
theorem sc_Ldue : FnScope nm_Ldue ["_law_parts_here"] (defScope s_Ldue) := ⟨rfl, rfl, rfl, by decide +kernel, rfl, by decide +kernel, by decide +kernel⟩
abbrev s_Lnear : Stmt := top 36
abbrev nm_Lnear : List Str := ["_law_well_here", "_law_parts_here", "_law_found", "_law_lot", "_law_names_here", "_law_name_here", "_law_above"]
theorem sc_Lnear : FnScope nm_Lnear ["_law_well_here", "_law_parts_here"] (defScope s_Lnear) := ⟨rfl, rfl, rfl, by decide +kernel, rfl, by decide +kernel, by decide +kernel⟩
abbrev s_law : Stmt := top 37
abbrev nm_law : List Str := ["_law_script", "_law_years", "_law_dues", "_law_cell", "_law_well_here", "_law_parts_here", "_law_near_here", "_law_handed", "_law_shared", "_law_some", "_law_k", "_law_heads_here", "_law_name_here", "_law_at", "_law_one", "_law_above"]
theorem sc_law : FnScope nm_law ["_law_script"] (defScope s_law) := ⟨rfl, rfl, rfl, by decide +kernel, rfl, by decide +kernel, by decide +kernel⟩
def dd_is_whole : He.DefD := ⟨("is_whole", none), "is_whole", "is_whole", defArgs s_is_whole, defBody s_is_whole, defScope s_is_whole, [], []⟩
def dd_within : He.DefD := ⟨("within", none), "within", "within", defArgs s_within, defBody s_within, defScope s_within, [], []⟩
def dd_is_name : He.DefD := ⟨("is_name", none), "is_name", "is_name", defArgs s_is_name, defBody s_is_name, defScope s_is_name, [], []⟩
def dd_are_tuples : He.DefD := ⟨("are_tuples", none), "are_tuples", "are_tuples", defArgs s_are_tuples, defBody s_are_tuples, defScope s_are_tuples, [], []⟩
def dd_are_heads : He.DefD := ⟨("are_heads", none), "are_heads", "are_heads", defArgs s_are_heads, defBody s_are_heads, defScope s_are_heads, [], []⟩
def dd_are_limits : He.DefD := ⟨("are_limits", none), "are_limits", "are_limits", defArgs s_are_limits, defBody s_are_limits, defScope s_are_limits, [], []⟩
def dd_are_rules : He.DefD := ⟨("are_rules", none), "are_rules", "are_rules", defArgs s_are_rules, defBody s_are_rules, defScope s_are_rules, [], []⟩
def dd_Year___init__ : He.DefD := ⟨("Year", some "__init__"), "__init__", "Year.__init__", defArgs s_Year___init__, defBody s_Year___init__, defScope s_Year___init__, [], []⟩
def dd_Year_names : He.DefD := ⟨("Year", some "names"), "names", "Year.names", defArgs s_Year_names, defBody s_Year_names, defScope s_Year_names, [], []⟩
def dd_Year_above : He.DefD := ⟨("Year", some "above"), "above", "Year.above", defArgs s_Year_above, defBody s_Year_above, defScope s_Year_above, [], []⟩
def dd_Year_knots : He.DefD := ⟨("Year", some "knots"), "knots", "Year.knots", defArgs s_Year_knots, defBody s_Year_knots, defScope s_Year_knots, [], []⟩
def dd_Year_under : He.DefD := ⟨("Year", some "under"), "under", "Year.under", defArgs s_Year_under, defBody s_Year_under, defScope s_Year_under, [], []⟩
def dd_Lcell_at : He.DefD := ⟨("_law_cell_at", none), "_law_cell_at", "_law_cell_at", defArgs s_Lcell_at, defBody s_Lcell_at, defScope s_Lcell_at, [], []⟩
def dd_Lwell : He.DefD := ⟨("_law_well", none), "_law_well", "_law_well", defArgs s_Lwell, defBody s_Lwell, defScope s_Lwell, [], []⟩
def dd_Ldraw : He.DefD := ⟨("_law_draw", none), "_law_draw", "_law_draw", defArgs s_Ldraw, defBody s_Ldraw, defScope s_Ldraw, [], []⟩
def dd_Lname : He.DefD := ⟨("_law_name", none), "_law_name", "_law_name", defArgs s_Lname, defBody s_Lname, defScope s_Lname, [], []⟩
def dd_Lnames : He.DefD := ⟨("_law_names", none), "_law_names", "_law_names", defArgs s_Lnames, defBody s_Lnames, defScope s_Lnames, [], []⟩
def dd_Lheads : He.DefD := ⟨("_law_heads", none), "_law_heads", "_law_heads", defArgs s_Lheads, defBody s_Lheads, defScope s_Lheads, [], []⟩
def dd_Llimits : He.DefD := ⟨("_law_limits", none), "_law_limits", "_law_limits", defArgs s_Llimits, defBody s_Llimits, defScope s_Llimits, [], []⟩
def dd_Lrules : He.DefD := ⟨("_law_rules", none), "_law_rules", "_law_rules", defArgs s_Lrules, defBody s_Lrules, defScope s_Lrules, [], []⟩
def dd_Lparts : He.DefD := ⟨("_law_parts", none), "_law_parts", "_law_parts", defArgs s_Lparts, defBody s_Lparts, defScope s_Lparts, [], []⟩
def dd_Lknots : He.DefD := ⟨("_law_knots", none), "_law_knots", "_law_knots", defArgs s_Lknots, defBody s_Lknots, defScope s_Lknots, [], []⟩
def dd_Lall : He.DefD := ⟨("_law_all", none), "_law_all", "_law_all", defArgs s_Lall, defBody s_Lall, defScope s_Lall, [], []⟩
def dd_Lasked : He.DefD := ⟨("_law_asked", none), "_law_asked", "_law_asked", defArgs s_Lasked, defBody s_Lasked, defScope s_Lasked, [], []⟩
def dd_Ldue : He.DefD := ⟨("_law_due", none), "_law_due", "_law_due", defArgs s_Ldue, defBody s_Ldue, defScope s_Ldue, [], []⟩
def dd_Lnear : He.DefD := ⟨("_law_near", none), "_law_near", "_law_near", defArgs s_Lnear, defBody s_Lnear, defScope s_Lnear, [], []⟩
def dd_law : He.DefD := ⟨("law", none), "law", "law", defArgs s_law, defBody s_law, defScope s_law, [], []⟩
def fnA_0 : List He.DefD := [dd_is_whole,
  dd_within,
  dd_is_name,
  dd_are_tuples,
  dd_are_heads,
  dd_are_limits,
  dd_are_rules,
  dd_Year___init__,
  dd_Year_names,
  dd_Year_above,
  dd_Year_knots,
  dd_Year_under,
  dd_Lcell_at,
  dd_Lwell,
  dd_Ldraw,
  dd_Lname,
  dd_Lnames,
  dd_Lheads,
  dd_Llimits,
  dd_Lrules,
  dd_Lparts,
  dd_Lknots,
  dd_Lall,
  dd_Lasked,
  dd_Ldue]
def fnA_1 : List He.DefD := [dd_Lnear,
  dd_law]
def fnA : List He.DefD := fnA_0 ++ fnA_1
def fxA_0 (K : PySem.W.Frag) : List Bool := [(He.Fa.glo "is_whole").ok K,
  (He.Fa.glo "within").ok K,
  (He.Fa.glo "is_name").ok K,
  (He.Fa.glo "are_tuples").ok K,
  (He.Fa.glo "are_heads").ok K,
  (He.Fa.glo "are_limits").ok K,
  (He.Fa.glo "are_rules").ok K,
  (He.Fa.glo "_law_cell_at").ok K,
  (He.Fa.glo "_law_well").ok K,
  (He.Fa.glo "_law_draw").ok K,
  (He.Fa.glo "_law_name").ok K,
  (He.Fa.glo "_law_names").ok K,
  (He.Fa.glo "_law_heads").ok K,
  (He.Fa.glo "_law_limits").ok K,
  (He.Fa.glo "_law_rules").ok K,
  (He.Fa.glo "_law_parts").ok K,
  (He.Fa.glo "_law_knots").ok K,
  (He.Fa.glo "_law_all").ok K,
  (He.Fa.glo "_law_asked").ok K,
  (He.Fa.glo "_law_due").ok K,
  (He.Fa.glo "_law_near").ok K,
  (He.Fa.glo "law").ok K,
  (He.Fa.glo "PurseError").ok K,
  (He.Fa.glo "NoYear").ok K,
  (He.Fa.glo "NoHead").ok K]
def fxA_1 (K : PySem.W.Frag) : List Bool := [(He.Fa.glo "Year").ok K,
  (He.Fa.str "LETTERS" "abcdefghijklmnopqrstuvwxyz").ok K,
  (He.Fa.int "MOST_SIGNS" 8).ok K,
  (He.Fa.int "MOST_DAYS" 30).ok K,
  (He.Fa.int "MOST_HEADS" 8).ok K,
  (He.Fa.int "MOST_LIMITS" 6).ok K,
  (He.Fa.int "MOST_RULES" 4).ok K,
  (He.Fa.int "MOST_WHOLE" 1000).ok K,
  (He.Fa.int "GREATEST" 1000000000000000).ok K,
  (He.Fa.free "len").ok K,
  (He.Fa.free "isinstance").ok K,
  (He.Fa.free "int").ok K,
  (He.Fa.free "str").ok K,
  (He.Fa.free "bool").ok K,
  (He.Fa.free "range").ok K,
  (He.Fa.free "tuple").ok K,
  (He.Fa.free "list").ok K,
  (He.Fa.free "dict").ok K,
  (He.Fa.free "all").ok K,
  (He.Fa.exc "PurseError").ok K,
  (He.Fa.exc "NoYear").ok K,
  (He.Fa.exc "NoHead").ok K,
  (He.Fa.cls "Year").ok K,
  insB K (He.ga K "Year"),
  (He.Fa.noat "Year" "days").ok K]
def fxA_2 (K : PySem.W.Frag) : List Bool := [(He.Fa.noat "Year" "heads").ok K,
  (He.Fa.noat "Year" "limits").ok K,
  (He.Fa.noat "Year" "rules").ok K,
  (He.Fa.mkr "Year").ok K,
  (He.Fa.meth "Year" "names").ok K,
  (He.Fa.meth "Year" "above").ok K,
  (He.Fa.meth "Year" "knots").ok K,
  (He.Fa.meth "Year" "under").ok K]
def fxA (K : PySem.W.Frag) : List Bool := fxA_0 K ++ fxA_1 K ++ fxA_2 K
def tsA : List He.Tab := []
structure Tx (P : Program) (w : World) (K : PySem.W.Frag) (mg : Str → Option Value) (base : Heap) : Prop where
  g_is_whole : mg "is_whole" = some (.ref (He.ga K "is_whole"))
  g_within : mg "within" = some (.ref (He.ga K "within"))
  g_is_name : mg "is_name" = some (.ref (He.ga K "is_name"))
  g_are_tuples : mg "are_tuples" = some (.ref (He.ga K "are_tuples"))
  g_are_heads : mg "are_heads" = some (.ref (He.ga K "are_heads"))
  g_are_limits : mg "are_limits" = some (.ref (He.ga K "are_limits"))
  g_are_rules : mg "are_rules" = some (.ref (He.ga K "are_rules"))
  g__law_cell_at : mg "_law_cell_at" = some (.ref (He.ga K "_law_cell_at"))
  g__law_well : mg "_law_well" = some (.ref (He.ga K "_law_well"))
  g__law_draw : mg "_law_draw" = some (.ref (He.ga K "_law_draw"))
  g__law_name : mg "_law_name" = some (.ref (He.ga K "_law_name"))
  g__law_names : mg "_law_names" = some (.ref (He.ga K "_law_names"))
  g__law_heads : mg "_law_heads" = some (.ref (He.ga K "_law_heads"))
  g__law_limits : mg "_law_limits" = some (.ref (He.ga K "_law_limits"))
  g__law_rules : mg "_law_rules" = some (.ref (He.ga K "_law_rules"))
  g__law_parts : mg "_law_parts" = some (.ref (He.ga K "_law_parts"))
  g__law_knots : mg "_law_knots" = some (.ref (He.ga K "_law_knots"))
  g__law_all : mg "_law_all" = some (.ref (He.ga K "_law_all"))
  g__law_asked : mg "_law_asked" = some (.ref (He.ga K "_law_asked"))
  g__law_due : mg "_law_due" = some (.ref (He.ga K "_law_due"))
  g__law_near : mg "_law_near" = some (.ref (He.ga K "_law_near"))
  g_law : mg "law" = some (.ref (He.ga K "law"))
  g_PurseError : mg "PurseError" = some (.ref (He.ga K "PurseError"))
  g_NoYear : mg "NoYear" = some (.ref (He.ga K "NoYear"))
  g_NoHead : mg "NoHead" = some (.ref (He.ga K "NoHead"))
  g_Year : mg "Year" = some (.ref (He.ga K "Year"))
  g_LETTERS : ∃ t, mg "LETTERS" = some (.str "abcdefghijklmnopqrstuvwxyz" t)
  g_MOST_SIGNS : ∃ t, mg "MOST_SIGNS" = some (.int 8 t)
  g_MOST_DAYS : ∃ t, mg "MOST_DAYS" = some (.int 30 t)
  g_MOST_HEADS : ∃ t, mg "MOST_HEADS" = some (.int 8 t)
  g_MOST_LIMITS : ∃ t, mg "MOST_LIMITS" = some (.int 6 t)
  g_MOST_RULES : ∃ t, mg "MOST_RULES" = some (.int 4 t)
  g_MOST_WHOLE : ∃ t, mg "MOST_WHOLE" = some (.int 1000 t)
  g_GREATEST : ∃ t, mg "GREATEST" = some (.int 1000000000000000 t)
  n_len : mg "len" = none
  n_isinstance : mg "isinstance" = none
  n_int : mg "int" = none
  n_str : mg "str" = none
  n_bool : mg "bool" = none
  n_range : mg "range" = none
  n_tuple : mg "tuple" = none
  n_list : mg "list" = none
  n_dict : mg "dict" = none
  n_all : mg "all" = none
  x_PurseError : PySem.W.excIn K (He.ga K "PurseError") He.veBase "ValueError.__new__" = true ∧ PySem.W.keepIn K (.ref (He.ga K "PurseError")) = true ∧ PySem.W.subIn K (.ref (He.ga K "PurseError")) (.type "BaseException") = some true ∧ PySem.W.typeIn K (.ref (He.ga K "PurseError")) = some (.type "type")
  x_NoYear : PySem.W.excIn K (He.ga K "NoYear") He.veBase "ValueError.__new__" = true ∧ PySem.W.keepIn K (.ref (He.ga K "NoYear")) = true ∧ PySem.W.subIn K (.ref (He.ga K "NoYear")) (.type "BaseException") = some true ∧ PySem.W.typeIn K (.ref (He.ga K "NoYear")) = some (.type "type")
  x_NoHead : PySem.W.excIn K (He.ga K "NoHead") He.veBase "ValueError.__new__" = true ∧ PySem.W.keepIn K (.ref (He.ga K "NoHead")) = true ∧ PySem.W.subIn K (.ref (He.ga K "NoHead")) (.type "BaseException") = some true ∧ PySem.W.typeIn K (.ref (He.ga K "NoHead")) = some (.type "type")
  c_Year : Cls K (He.ga K "Year")
  i_Year : InsK K (He.ga K "Year")
  a_Year_days : NoAttr K (He.ga K "Year") "days"
  a_Year_heads : NoAttr K (He.ga K "Year") "heads"
  a_Year_limits : NoAttr K (He.ga K "Year") "limits"
  a_Year_rules : NoAttr K (He.ga K "Year") "rules"
  mk_Year : Mk K (He.ga K "Year") (He.ma K (He.ga K "Year") "__init__")
  m_Year_names : Meth K (He.ga K "Year") "names" (He.ma K (He.ga K "Year") "names")
  m_Year_above : Meth K (He.ga K "Year") "above" (He.ma K (He.ga K "Year") "above")
  m_Year_knots : Meth K (He.ga K "Year") "knots" (He.ma K (He.ga K "Year") "knots")
  m_Year_under : Meth K (He.ga K "Year") "under" (He.ma K (He.ga K "Year") "under")
  f_is_whole : ∃ fd, FunD K "is_whole" "is_whole" (defArgs s_is_whole) (defBody s_is_whole) (defScope s_is_whole) [] [] (He.fAd K ("is_whole", none)) fd
  f_within : ∃ fd, FunD K "within" "within" (defArgs s_within) (defBody s_within) (defScope s_within) [] [] (He.fAd K ("within", none)) fd
  f_is_name : ∃ fd, FunD K "is_name" "is_name" (defArgs s_is_name) (defBody s_is_name) (defScope s_is_name) [] [] (He.fAd K ("is_name", none)) fd
  f_are_tuples : ∃ fd, FunD K "are_tuples" "are_tuples" (defArgs s_are_tuples) (defBody s_are_tuples) (defScope s_are_tuples) [] [] (He.fAd K ("are_tuples", none)) fd
  f_are_heads : ∃ fd, FunD K "are_heads" "are_heads" (defArgs s_are_heads) (defBody s_are_heads) (defScope s_are_heads) [] [] (He.fAd K ("are_heads", none)) fd
  f_are_limits : ∃ fd, FunD K "are_limits" "are_limits" (defArgs s_are_limits) (defBody s_are_limits) (defScope s_are_limits) [] [] (He.fAd K ("are_limits", none)) fd
  f_are_rules : ∃ fd, FunD K "are_rules" "are_rules" (defArgs s_are_rules) (defBody s_are_rules) (defScope s_are_rules) [] [] (He.fAd K ("are_rules", none)) fd
  f_Year___init__ : ∃ fd, FunD K "__init__" "Year.__init__" (defArgs s_Year___init__) (defBody s_Year___init__) (defScope s_Year___init__) [] [] (He.fAd K ("Year", some "__init__")) fd
  f_Year_names : ∃ fd, FunD K "names" "Year.names" (defArgs s_Year_names) (defBody s_Year_names) (defScope s_Year_names) [] [] (He.fAd K ("Year", some "names")) fd
  f_Year_above : ∃ fd, FunD K "above" "Year.above" (defArgs s_Year_above) (defBody s_Year_above) (defScope s_Year_above) [] [] (He.fAd K ("Year", some "above")) fd
  f_Year_knots : ∃ fd, FunD K "knots" "Year.knots" (defArgs s_Year_knots) (defBody s_Year_knots) (defScope s_Year_knots) [] [] (He.fAd K ("Year", some "knots")) fd
  f_Year_under : ∃ fd, FunD K "under" "Year.under" (defArgs s_Year_under) (defBody s_Year_under) (defScope s_Year_under) [] [] (He.fAd K ("Year", some "under")) fd
  f_Lcell_at : ∃ fd, FunD K "_law_cell_at" "_law_cell_at" (defArgs s_Lcell_at) (defBody s_Lcell_at) (defScope s_Lcell_at) [] [] (He.fAd K ("_law_cell_at", none)) fd
  f_Lwell : ∃ fd, FunD K "_law_well" "_law_well" (defArgs s_Lwell) (defBody s_Lwell) (defScope s_Lwell) [] [] (He.fAd K ("_law_well", none)) fd
  f_Ldraw : ∃ fd, FunD K "_law_draw" "_law_draw" (defArgs s_Ldraw) (defBody s_Ldraw) (defScope s_Ldraw) [] [] (He.fAd K ("_law_draw", none)) fd
  f_Lname : ∃ fd, FunD K "_law_name" "_law_name" (defArgs s_Lname) (defBody s_Lname) (defScope s_Lname) [] [] (He.fAd K ("_law_name", none)) fd
  f_Lnames : ∃ fd, FunD K "_law_names" "_law_names" (defArgs s_Lnames) (defBody s_Lnames) (defScope s_Lnames) [] [] (He.fAd K ("_law_names", none)) fd
  f_Lheads : ∃ fd, FunD K "_law_heads" "_law_heads" (defArgs s_Lheads) (defBody s_Lheads) (defScope s_Lheads) [] [] (He.fAd K ("_law_heads", none)) fd
  f_Llimits : ∃ fd, FunD K "_law_limits" "_law_limits" (defArgs s_Llimits) (defBody s_Llimits) (defScope s_Llimits) [] [] (He.fAd K ("_law_limits", none)) fd
  f_Lrules : ∃ fd, FunD K "_law_rules" "_law_rules" (defArgs s_Lrules) (defBody s_Lrules) (defScope s_Lrules) [] [] (He.fAd K ("_law_rules", none)) fd
  f_Lparts : ∃ fd, FunD K "_law_parts" "_law_parts" (defArgs s_Lparts) (defBody s_Lparts) (defScope s_Lparts) [] [] (He.fAd K ("_law_parts", none)) fd
  f_Lknots : ∃ fd, FunD K "_law_knots" "_law_knots" (defArgs s_Lknots) (defBody s_Lknots) (defScope s_Lknots) [] [] (He.fAd K ("_law_knots", none)) fd
  f_Lall : ∃ fd, FunD K "_law_all" "_law_all" (defArgs s_Lall) (defBody s_Lall) (defScope s_Lall) [] [] (He.fAd K ("_law_all", none)) fd
  f_Lasked : ∃ fd, FunD K "_law_asked" "_law_asked" (defArgs s_Lasked) (defBody s_Lasked) (defScope s_Lasked) [] [] (He.fAd K ("_law_asked", none)) fd
  f_Ldue : ∃ fd, FunD K "_law_due" "_law_due" (defArgs s_Ldue) (defBody s_Ldue) (defScope s_Ldue) [] [] (He.fAd K ("_law_due", none)) fd
  f_Lnear : ∃ fd, FunD K "_law_near" "_law_near" (defArgs s_Lnear) (defBody s_Lnear) (defScope s_Lnear) [] [] (He.fAd K ("_law_near", none)) fd
  f_law : ∃ fd, FunD K "law" "law" (defArgs s_law) (defBody s_law) (defScope s_law) [] [] (He.fAd K ("law", none)) fd
theorem tx_of {P : Program} {w : World} {K : PySem.W.Frag} {mg : Str → Option Value} {base h : Heap} (X : K.In h) (G : h.Ns mainGlobals mg) (c : SaysK fxA fnA tsA w K) : Tx P w K mg base where
  g_is_whole := He.glo_ok X G (c.fact 0)
  g_within := He.glo_ok X G (c.fact 1)
  g_is_name := He.glo_ok X G (c.fact 2)
  g_are_tuples := He.glo_ok X G (c.fact 3)
  g_are_heads := He.glo_ok X G (c.fact 4)
  g_are_limits := He.glo_ok X G (c.fact 5)
  g_are_rules := He.glo_ok X G (c.fact 6)
  g__law_cell_at := He.glo_ok X G (c.fact 7)
  g__law_well := He.glo_ok X G (c.fact 8)
  g__law_draw := He.glo_ok X G (c.fact 9)
  g__law_name := He.glo_ok X G (c.fact 10)
  g__law_names := He.glo_ok X G (c.fact 11)
  g__law_heads := He.glo_ok X G (c.fact 12)
  g__law_limits := He.glo_ok X G (c.fact 13)
  g__law_rules := He.glo_ok X G (c.fact 14)
  g__law_parts := He.glo_ok X G (c.fact 15)
  g__law_knots := He.glo_ok X G (c.fact 16)
  g__law_all := He.glo_ok X G (c.fact 17)
  g__law_asked := He.glo_ok X G (c.fact 18)
  g__law_due := He.glo_ok X G (c.fact 19)
  g__law_near := He.glo_ok X G (c.fact 20)
  g_law := He.glo_ok X G (c.fact 21)
  g_PurseError := He.glo_ok X G (c.fact 22)
  g_NoYear := He.glo_ok X G (c.fact 23)
  g_NoHead := He.glo_ok X G (c.fact 24)
  g_Year := He.glo_ok X G (c.fact 25)
  g_LETTERS := He.str_ok X G (c.fact 26)
  g_MOST_SIGNS := He.int_ok X G (c.fact 27)
  g_MOST_DAYS := He.int_ok X G (c.fact 28)
  g_MOST_HEADS := He.int_ok X G (c.fact 29)
  g_MOST_LIMITS := He.int_ok X G (c.fact 30)
  g_MOST_RULES := He.int_ok X G (c.fact 31)
  g_MOST_WHOLE := He.int_ok X G (c.fact 32)
  g_GREATEST := He.int_ok X G (c.fact 33)
  n_len := He.free_ok X G (c.fact 34)
  n_isinstance := He.free_ok X G (c.fact 35)
  n_int := He.free_ok X G (c.fact 36)
  n_str := He.free_ok X G (c.fact 37)
  n_bool := He.free_ok X G (c.fact 38)
  n_range := He.free_ok X G (c.fact 39)
  n_tuple := He.free_ok X G (c.fact 40)
  n_list := He.free_ok X G (c.fact 41)
  n_dict := He.free_ok X G (c.fact 42)
  n_all := He.free_ok X G (c.fact 43)
  x_PurseError := He.exc_ok (c.fact 44)
  x_NoYear := He.exc_ok (c.fact 45)
  x_NoHead := He.exc_ok (c.fact 46)
  c_Year := He.cls_ok (c.fact 47)
  i_Year := insB_ok (c.fact 48)
  a_Year_days := He.noat_ok (c.fact 49)
  a_Year_heads := He.noat_ok (c.fact 50)
  a_Year_limits := He.noat_ok (c.fact 51)
  a_Year_rules := He.noat_ok (c.fact 52)
  mk_Year := He.mkr_ok (c.fact 53)
  m_Year_names := He.meth_ok (c.fact 54)
  m_Year_above := He.meth_ok (c.fact 55)
  m_Year_knots := He.meth_ok (c.fact 56)
  m_Year_under := He.meth_ok (c.fact 57)
  f_is_whole := c.def_ 0 (d := dd_is_whole) rfl
  f_within := c.def_ 1 (d := dd_within) rfl
  f_is_name := c.def_ 2 (d := dd_is_name) rfl
  f_are_tuples := c.def_ 3 (d := dd_are_tuples) rfl
  f_are_heads := c.def_ 4 (d := dd_are_heads) rfl
  f_are_limits := c.def_ 5 (d := dd_are_limits) rfl
  f_are_rules := c.def_ 6 (d := dd_are_rules) rfl
  f_Year___init__ := c.def_ 7 (d := dd_Year___init__) rfl
  f_Year_names := c.def_ 8 (d := dd_Year_names) rfl
  f_Year_above := c.def_ 9 (d := dd_Year_above) rfl
  f_Year_knots := c.def_ 10 (d := dd_Year_knots) rfl
  f_Year_under := c.def_ 11 (d := dd_Year_under) rfl
  f_Lcell_at := c.def_ 12 (d := dd_Lcell_at) rfl
  f_Lwell := c.def_ 13 (d := dd_Lwell) rfl
  f_Ldraw := c.def_ 14 (d := dd_Ldraw) rfl
  f_Lname := c.def_ 15 (d := dd_Lname) rfl
  f_Lnames := c.def_ 16 (d := dd_Lnames) rfl
  f_Lheads := c.def_ 17 (d := dd_Lheads) rfl
  f_Llimits := c.def_ 18 (d := dd_Llimits) rfl
  f_Lrules := c.def_ 19 (d := dd_Lrules) rfl
  f_Lparts := c.def_ 20 (d := dd_Lparts) rfl
  f_Lknots := c.def_ 21 (d := dd_Lknots) rfl
  f_Lall := c.def_ 22 (d := dd_Lall) rfl
  f_Lasked := c.def_ 23 (d := dd_Lasked) rfl
  f_Ldue := c.def_ 24 (d := dd_Ldue) rfl
  f_Lnear := c.def_ 25 (d := dd_Lnear) rfl
  f_law := c.def_ 26 (d := dd_law) rfl
end Kn

set_option Elab.async false
set_option linter.all false
set_option maxRecDepth 100000
set_option maxHeartbeats 0
namespace Kn
open PySem PySem.Spec PyProof.Rows L2
def sp_law (K : PySem.W.Frag) : Sp := fun vs H Q _ => ∃ (a : Addr) (ns : List Int), vs = [.ref a] ∧ SqL K H a (ns.map V.int) ∧ ns.length ≤ 63 ∧ (∀ z ∈ ns, Builtin.Int.intBits z ≤ 1048576) ∧ ∀ H', Q (.bl true) H'
abbrev Rw : PySem.W.OpenRow := PySem.W.OpenLaw.row PySem.Challenge.rw_knotpurse_k08_whole_years_by_turns
def looseN : List PySem.Str := (["PurseError", "NoYear", "NoHead", "LETTERS", "MOST_SIGNS", "is_whole", "within", "is_name", "MOST_DAYS", "MOST_HEADS", "MOST_LIMITS", "MOST_RULES", "MOST_WHOLE", "GREATEST", "are_tuples", "are_heads", "are_limits", "are_rules", "Year", "_law_cell_at", "_law_well", "_law_draw", "_law_name", "_law_names", "_law_heads", "_law_limits", "_law_rules", "_law_parts", "_law_knots", "_law_all"] : List PySem.Str) ++ (["_law_asked", "_law_due", "_law_near"] : List PySem.Str)
abbrev hkA : PySem.W.Hook := hookK 6 fxA fnA tsA
def obA (s : PySem.W.SharedT) : AlK := obsKG 6 fxA fnA tsA (HandSHeadRun.getT s)
theorem obA_eq (s : PySem.W.SharedT) : obA s = hkA.obs s.abs := obsKG_eq (HandSHeadRun.getT_eq s)
theorem run_false (w : World) : HandSHeadRun.RunEq Rw (PySem.W.view Rw.prog [37]) hkA obA 6000 looseN (w.withFollow "special-get-raises" false) := by
  intro os
  kernel_rfl
theorem run_true (w : World) : HandSHeadRun.RunEq Rw (PySem.W.view Rw.prog [37]) hkA obA 6000 looseN (w.withFollow "special-get-raises" true) := by
  intro os
  kernel_rfl
theorem runA (w : World) : HandSHeadRun.RunEq Rw (PySem.W.view Rw.prog [37]) hkA obA 6000 looseN w := PySem.W.byRow2 "special-get-raises" run_false run_true w
theorem closeA (F : ∀ (w : World) (K : PySem.W.Frag) (mg : Str → Option Value) (base : Heap), Tx (PySem.Challenge.rw_knotpurse_k08_whole_years_by_turns).prog w K mg base → DefOk (PySem.Challenge.rw_knotpurse_k08_whole_years_by_turns).prog w K mg base 6 ("law", none) ["_law_script"] (sp_law K)) : PySem.Challenge.rw_knotpurse_k08_whole_years_by_turns.Holds := by
  w_on; o_law
  refine HandSHeadRun.head_any (r := Rw) (q := PySem.W.view Rw.prog [37]) (H := hkA) (ob := obA) (M := 6000) (loose := looseN) (d := HandSHeadRun.topDef Rw.prog 37) (kwd := []) obA_eq
    (by kernel_rfl) (fun s => by kernel_rfl) runA (by kernel_rfl) (by kernel_rfl) (by kernel_rfl) (by rfl) (by first | assumption | decide +kernel) (by decide +kernel) ⟨rfl, rfl, rfl, rfl, rfl, by decide +kernel⟩ ?hw ?hc
  case hw => w_witness2
  case hc =>
    refine walkK (l := PySem.Challenge.rw_knotpurse_k08_whole_years_by_turns) (n := 63) (k := 6) (x := "_law_script") rfl (by decide) (by kernel_rfl) ⟨rfl, by decide, by decide⟩ ?_
    intro w mg fa h Y G hmg0
    obtain ⟨K, KX, c⟩ := Y
    have hmg : mg ("law" : PySem.Str) = some (.ref fa) := by
      have e : (HandSHeadRun.topDef Rw.prog 37).name = ("law" : PySem.Str) := by kernel_rfl
      rw [← e]
      exact hmg0
    have T : ∀ base, Tx (PySem.Challenge.rw_knotpurse_k08_whole_years_by_turns).prog w K mg base := fun base => tx_of KX G c
    have e := hmg.symm.trans (T default).g_law
    cases e
    obtain ⟨fd, F0⟩ := (T default).f_law
    have b := FunD.bindsA (ps := ["_law_script"]) F0 fun _ _ _ _ _ _ us hl => match us, hl with | [_], _ => rfl
    refine ⟨K, fd, sp_law K, KX, fun s v => b s [v] rfl, fun H a ns hl hb _ hS => ⟨a, ns, rfl, hS, hl, hb, fun _ => rfl⟩, fun base _ _ => ?_⟩
    obtain ⟨⟨fd2, F2, _, oc, od, osl, lk⟩, _⟩ := F w K mg base (T base)
    obtain ⟨_, _, _, _, _, _, _, _, _, _, _, lk2, _⟩ := F0.ex
    rw [lk2] at lk
    injection lk with e2
    injection e2 with _ _ e3 _
    injection e3 with e4
    rw [e4]
    exact F2
end Kn

set_option Elab.async false
set_option linter.all false
set_option maxRecDepth 100000
set_option maxHeartbeats 4000000
namespace Kn
open PySem PySem.Spec PyProof.Rows L2
local macro_rules | `(tactic| walk_at "go1") => `(tactic| first
  | with_reducible refine s_seq ?_
  | with_reducible refine s_var rfl ?_
  | with_reducible refine s_c ?_
  | with_reducible refine s_cons ?_
  | with_reducible refine s_nil ?_
  | with_reducible refine s_asg ?_
  | with_reducible refine s_name ?_
  | with_reducible refine s_op ?_
  | with_reducible refine s_call ?_
  | with_reducible refine s_cb ?_
  | with_reducible refine s_ret ?_
  | with_reducible refine s_drop ?_
  | with_reducible refine s_next ?_
  | with_reducible refine s_ifs ?_
  | with_reducible refine s_test ?_
  | with_reducible refine s_tB ?_
  | with_reducible refine s_blP ?_
  | with_reducible refine s_intP ?_
  | with_reducible refine iteT ?_
  | with_reducible refine iteF ?_
  | with_reducible refine ite_not ?_
  | with_reducible refine s_and ?_
  | with_reducible refine s_or ?_
  | with_reducible refine s_not ?_
  | with_reducible refine s_andV ?_
  | with_reducible refine s_orV ?_
  | with_reducible refine s_notV ?_
  | with_reducible refine s_chain ?_
  | with_reducible refine s_sub ?_
  | with_reducible refine s_bm ?_
  | with_reducible refine s_sl ?_
  | with_reducible refine s_part ?_
  | with_reducible refine s_nop ?_
  | with_reducible refine s_make ?_
  | with_reducible refine s_un ?_
  | with_reducible refine s_ifE ?_
  | with_reducible refine s_dget ?_
  | with_reducible refine s_dget2 ?_
  | with_reducible refine s_dnew ?_
  | with_reducible refine s_ivals ?_
  | with_reducible refine s_brk ?_
  | with_reducible refine s_gcons ?_
  | with_reducible refine s_gnil ?_
  | with_reducible refine s_meth ?_
  | with_reducible refine s_rev ?_
  | with_reducible refine s_lc ?_
  | with_reducible refine s_rng1 ?_
  | with_reducible refine s_ilst ?_
  | with_reducible refine s_istr ?_
  | with_reducible refine s_for ?_
  | with_reducible refine s_yes ?_
  | with_reducible refine s_wipe rfl ?_
  | with_reducible refine s_kget ?_
  | with_reducible refine s_strP ?_
  | with_reducible refine s_fldS ?_
  | with_reducible refine s_fld ?_
  | with_reducible refine s_tup ?_
  | with_reducible refine s_lst ?_
  | with_reducible refine v_addI ?_
  | with_reducible refine v_subI ?_
  | with_reducible refine v_lt ?_
  | with_reducible refine v_le ?_
  | with_reducible refine v_gt ?_
  | with_reducible refine v_ge ?_
  | with_reducible refine v_eqI ?_
  | with_reducible refine v_eqS ?_
  | with_reducible refine v_neS ?_
  | with_reducible refine v_neI ?_)
local macro_rules | `(tactic| walk_at "go") => `(tactic| repeat walk_at "go1")

section
variable {w : World} {P : Program} {mg : Str → Option Value} {K : PySem.W.Frag} {base : Heap}
def sp_is_whole (K : PySem.W.Frag) : Sp := fun vs H Q _ => ∃ x, vs = [x] ∧ Knd K H x ∧ Q (.bl (wholeB x)) H
def sp_within (K : PySem.W.Frag) : Sp := fun vs H Q _ => ∃ x lo hi, vs = [x, .int lo, .int hi] ∧ Knd K H x ∧ Q (.bl (withinB x lo hi)) H
def sp_is_name (K : PySem.W.Frag) : Sp := fun vs H Q _ => ∃ x, vs = [x] ∧ Knd K H x ∧ Q (.bl (nameB x)) H

theorem ok_is_whole (T : Tx P w K mg base) : DefOk P w K mg base 1 ("is_whole", none) ["thing"] (sp_is_whole K) := by
  refine mkOk T.f_is_whole sc_is_whole (fun vs H Q E h => ?_) (fun _ _ _ _ _ _ us hl => match us, hl with | [_], _ => rfl) (fun cdv A outer s H vs Q E hr h => ?_)
  · obtain ⟨x, rfl, hk, k⟩ := h
    rfl
  · obtain ⟨x, rfl, hk, k⟩ := h
    refine ⟨_, (pss_one (ps_ret (pe_and (pe_callB (isiK K rfl) rfl T.n_isinstance (by decide +kernel) (pa_cons (pv 0) (pa_cons (kbT (n := "int") T.n_int (by decide +kernel)) pa_nil))) (pe_one (pe_not (pe_callB (isiK K rfl) rfl T.n_isinstance (by decide +kernel) (pa_cons (pv 0) (pa_cons (kbT (n := "bool") T.n_bool (by decide +kernel)) pa_nil)))))))), ?_⟩
    obtain ⟨⟨t, ht, _, h2, h3⟩, _⟩ := hk
    walk_at "go"
    refine v_isi ht h2 ?_
    walk_at "go"
    cases x with
    | int i =>
      walk_at "go"
      refine v_isi ht h3 ?_
      walk_at "go"
      exact k
    | bl i =>
      walk_at "go"
      refine v_isi ht h3 ?_
      walk_at "go"
      exact k
    | _ =>
      walk_at "go"
      exact k

theorem ok_within (T : Tx P w K mg base) : DefOk P w K mg base 2 ("within", none) ["thing", "least", "most"] (sp_within K) := by
  refine mkOk T.f_within sc_within (fun vs H Q E h => ?_) (fun _ _ _ _ _ _ us hl => match us, hl with | [_, _, _], _ => rfl) (fun cdv A outer s H vs Q E hr h => ?_)
  · obtain ⟨x, lo, hi, rfl, hk, k⟩ := h
    rfl
  · obtain ⟨x, lo, hi, rfl, hk, k⟩ := h
    refine ⟨_, (pss_one (ps_ret (pe_and (kc (ok_is_whole (K := K) T) T.g_is_whole (hr.mono (by decide)) pB (pa_cons (pv 0) pa_nil)) (pe_one (pe_chain kLe kLe (pv 1) (pv 0) (pv 2)))))), ?_⟩
    walk_at "go"
    refine ⟨x, rfl, hk, ?_⟩
    walk_at "go"
    cases x with
    | int i =>
      walk_at "go"
      by_cases h : lo ≤ i
      · rw [decide_eq_true h]
        walk_at "go"
        simpa [withinB, h] using k
      · rw [decide_eq_false h]
        walk_at "go"
        simpa [withinB, h] using k
    | _ =>
      walk_at "go"
      exact k

theorem ok_is_name (T : Tx P w K mg base) : DefOk P w K mg base 1 ("is_name", none) ["thing"] (sp_is_name K) := by
  refine mkOk T.f_is_name sc_is_name (fun vs H Q E h => ?_) (fun _ _ _ _ _ _ us hl => match us, hl with | [_], _ => rfl) (fun cdv A outer s H vs Q E hr h => ?_)
  · obtain ⟨x, rfl, hk, k⟩ := h
    rfl
  · obtain ⟨x, rfl, hk, k⟩ := h
    refine ⟨_, (pss_cons (ps_if (PW.pt (pw_or (pt_not (pt_val (pe_callB (isiK K rfl) rfl T.n_isinstance (by decide +kernel) (pa_cons (pv 0) (pa_cons (kbT (n := "str") T.n_str (by decide +kernel)) pa_nil))))) (pw_or (pt_cmpR (eqK K rfl hr) (pv 0) pe_str (nomark _)) (pw_or1 (pt_cmpR kGt (pe_callB (lenK K rfl) rfl T.n_len (by decide +kernel) (pa_cons (pv 0) pa_nil)) (kgI T.g_MOST_SIGNS) (nomark _)))))) (pss_one (ps_ret pe_bl)) pss_nil)
      (pss_one (ps_ret (pe_cmpR (eqK K rfl hr) (bmK K rfl PySem.F.plainAttrs_str PySem.F.slot_str_strip PySem.F.type_str_strip kStrip (pv 0) (pa_cons (kgS T.g_LETTERS) pa_nil)) pe_str (nomark _))))), ?_⟩
    obtain ⟨⟨t, ht, h1, _, _⟩, hl⟩ := hk
    walk_at "go"
    refine v_isi ht h1 ?_
    walk_at "go"
    cases x with
    | str z =>
      have hz := hl z rfl
      walk_at "go"
      by_cases e : z = ""
      · rw [decide_eq_true e]
        walk_at "go"
        simpa [nameB, nameS, e] using k
      · rw [decide_eq_false e]
        walk_at "go"
        refine v_lenS (sz hz) ?_
        walk_at "go"
        by_cases e2 : (8 : Int) < (z.length : Int)
        · rw [decide_eq_true e2]
          walk_at "go"
          simpa [nameB, nameS, e, e2] using k
        · rw [decide_eq_false e2]
          walk_at "go"
          refine ⟨rfl, ?_⟩
          walk_at "go"
          refine v_strip (sz hz) ?_
          walk_at "go"
          have e3 : nameB (.str z) = decide (Txt.stripChars z LET = "") := by
            show (!decide (z = "") && (!decide ((8 : Int) < z.length) && decide (Txt.stripChars z LET = ""))) = _
            rw [decide_eq_false e, decide_eq_false e2]
            rfl
          rw [e3] at k
          exact k
    | _ =>
      walk_at "go"
      exact k

def sp_are_tuples (K : PySem.W.Frag) : Sp := fun vs H Q _ => ∃ v d most wide, vs = [v, .int most, .int wide] ∧ Dp K H v d ∧ most ≤ 1000 ∧ ∀ H', Same H H' → Q (.bl (tuplesB d most wide)) H'
theorem use_tuples {K : PySem.W.Frag} {H : Hp} {Q : VK} {E : XK} {v : V} {d : PyData} {most wide : Int} (hd : Dp K H v d) (hm : most ≤ 1000) (k : ∀ H', Same H H' → Q (.bl (tuplesB d most wide)) H') : sp_are_tuples K [v, .int most, .int wide] H Q E := ⟨v, d, most, wide, rfl, hd, hm, k⟩

theorem ok_are_tuples (T : Tx P w K mg base) : DefOk P w K mg base 1 ("are_tuples", none) ["thing", "most", "wide"] (sp_are_tuples K) := by
  refine mkOk T.f_are_tuples sc_are_tuples (fun vs H Q E h => ?_) (fun _ _ _ _ _ _ us hl => match us, hl with | [_, _, _], _ => rfl) (fun cdv A outer s H vs Q E hr h => ?_)
  · obtain ⟨v, d, most, wide, rfl, hd, hm, k⟩ := h
    rfl
  · obtain ⟨v, d, most, wide, rfl, hd, hm, k⟩ := h
    refine ⟨_, (pss_cons (ps_if (PW.pt (pw_or (pt_not (pt_val (pe_callB (isiK K rfl) rfl T.n_isinstance (by decide +kernel) (pa_cons (pv 0) (pa_cons (kbT (n := "list") T.n_list (by decide +kernel)) pa_nil))))) (pw_or1 (pt_cmpR kGt (pe_callB (lenK K rfl) rfl T.n_len (by decide +kernel) (pa_cons (pv 0) pa_nil)) (pv 1) (nomark _))))) (pss_one (ps_ret pe_bl)) pss_nil)
      (pss_one (ps_ret (pe_callB (allK K rfl rfl) rfl T.n_all (by decide +kernel) (pa_cons (pe_lc (own := [("row", 3)]) rfl sc_are_tuples.nd (psqK K rfl (pv 0)) (blkOk_by (N := nm_are_tuples) (sc := defScope s_are_tuples) (by decide +kernel)) (fun _ _ _ _ _ => (pg_name (i := 3) sc_are_tuples.nd rfl (Or.inl rfl))) (fun _ _ _ _ _ => pts_nil) (fun _ _ _ _ _ => (pe_and (pe_callB (isiK K rfl) rfl T.n_isinstance (by decide +kernel) (pa_cons (pv 3) (pa_cons (kbT (n := "tuple") T.n_tuple (by decide +kernel)) pa_nil))) (pe_one (pe_cmpR (eqK K rfl hr) (pe_callB (lenK K rfl) rfl T.n_len (by decide +kernel) (pa_cons (pv 3) pa_nil)) (pv 2) (nomark _)))))) pa_nil))))), ?_⟩
    walk_at "go"
    obtain ⟨t, ht, h1, h2, h3, h4, h5⟩ := kt_dp hd
    refine v_isi ht h5 ?_
    cases d with
    | list ds =>
      obtain ⟨a, xs, rfl, hs, ha⟩ := dp_lst hd
      walk_at "go"
      refine v_lenL hs ?_
      walk_at "go"
      rw [DpAll.len ha]
      have eB : tuplesB (.list ds) most wide = (!decide (most < (ds.length : Int)) && ds.all (tupN wide)) := rfl
      refine it2 (fun hq => ?_) (fun hq => ?_)
      · walk_at "go"
        have := k _ (Same.refl _)
        rw [eB, decide_eq_true hq] at this
        exact this
      · walk_at "go"
        rw [decide_eq_false hq] at eB
        refine s_isL ?_
        walk_at "go"
        refine ⟨a, rfl, ⟨_, hs⟩, fun D hD => lc_it (walk_list (xs := xs)) (fun i H' => Same H H' ∧ H' D = some (.lst (((ds.take i).map (tupN wide)).map V.bl))) ?_ (fun _ _ _ h => h.1.seq hs) ?_ ?_⟩
        · exact ⟨Same.new hD, upd_same⟩
        · rintro i x H1 H1' hi ⟨s1, q1⟩ ⟨rfl, hx⟩
          walk_at "go"
          obtain ⟨d, hd1, hd2⟩ := DpAll.at_ (DpAll.same s1 ha) hx
          obtain ⟨t, ht, _, _, _, h4, _⟩ := kt_dp hd2
          refine v_isi ht h4 ?_
          have fin : ∀ H2, H2 = H1' → ∃ acc, H2 D = some (.lst acc) ∧ acc.length < sizeLine ∧ Same H (upd H2 D (.lst (acc ++ [V.bl (tupN wide d)]))) ∧ (upd H2 D (.lst (acc ++ [V.bl (tupN wide d)]))) D = some (.lst (((ds.take (i + 1)).map (tupN wide)).map V.bl)) := by
            rintro H2 rfl
            refine ⟨_, q1, ?_, s1.mut hD, ?_⟩
            · rw [List.length_map, List.length_map]
              exact Nat.lt_of_le_of_lt (List.length_take_le' _ _) (Nat.lt_of_le_of_lt (show ds.length ≤ 1000 by omega) (by decide))
            · rw [upd_same, List.take_add_one, hd1, List.map_append, List.map_append]
              rfl
          cases d with
          | tuple ys =>
            obtain ⟨b, zs, rfl, hz, hza⟩ := dp_tup hd2
            walk_at "go"
            refine v_lenT hz ?_
            walk_at "go"
            rw [DpAll.len hza]
            exact fin _ rfl
          | _ =>
            walk_at "go"
            exact fin _ rfl
        · rintro H1 ⟨s1, q1⟩
          rw [List.take_of_length_le (by rw [DpAll.len ha]; exact Nat.le_refl _)] at q1
          refine ⟨D, _, rfl, SqL.of q1, ?_⟩
          have := k _ s1
          rw [eB] at this
          rw [List.all_map]
          exact this
    | _ =>
      walk_at "go"
      exact k _ (Same.refl _)
end
end Kn

set_option Elab.async false
set_option linter.all false
set_option maxRecDepth 100000
set_option maxHeartbeats 4000000
namespace Kn
open PySem PySem.Spec PyProof.Rows L2
local macro_rules | `(tactic| walk_at "go1") => `(tactic| first
  | with_reducible refine s_seq ?_
  | with_reducible refine s_var rfl ?_
  | with_reducible refine s_c ?_
  | with_reducible refine s_cons ?_
  | with_reducible refine s_nil ?_
  | with_reducible refine s_asg ?_
  | with_reducible refine s_name ?_
  | with_reducible refine s_op ?_
  | with_reducible refine s_call ?_
  | with_reducible refine s_cb ?_
  | with_reducible refine s_ret ?_
  | with_reducible refine s_drop ?_
  | with_reducible refine s_next ?_
  | with_reducible refine s_ifs ?_
  | with_reducible refine s_test ?_
  | with_reducible refine s_tB ?_
  | with_reducible refine s_blP ?_
  | with_reducible refine s_intP ?_
  | with_reducible refine iteT ?_
  | with_reducible refine iteF ?_
  | with_reducible refine ite_not ?_
  | with_reducible refine s_and ?_
  | with_reducible refine s_or ?_
  | with_reducible refine s_not ?_
  | with_reducible refine s_andV ?_
  | with_reducible refine s_orV ?_
  | with_reducible refine s_notV ?_
  | with_reducible refine s_chain ?_
  | with_reducible refine s_sub ?_
  | with_reducible refine s_bm ?_
  | with_reducible refine s_sl ?_
  | with_reducible refine s_part ?_
  | with_reducible refine s_nop ?_
  | with_reducible refine s_make ?_
  | with_reducible refine s_un ?_
  | with_reducible refine s_ifE ?_
  | with_reducible refine s_dget ?_
  | with_reducible refine s_dget2 ?_
  | with_reducible refine s_dnew ?_
  | with_reducible refine s_ivals ?_
  | with_reducible refine s_brk ?_
  | with_reducible refine s_gcons ?_
  | with_reducible refine s_gnil ?_
  | with_reducible refine s_meth ?_
  | with_reducible refine s_rev ?_
  | with_reducible refine s_lc ?_
  | with_reducible refine s_rng1 ?_
  | with_reducible refine s_ilst ?_
  | with_reducible refine s_istr ?_
  | with_reducible refine s_for ?_
  | with_reducible refine s_yes ?_
  | with_reducible refine s_wipe rfl ?_
  | with_reducible refine s_kget ?_
  | with_reducible refine s_strP ?_
  | with_reducible refine s_fldS ?_
  | with_reducible refine s_fld ?_
  | with_reducible refine s_tup ?_
  | with_reducible refine s_lst ?_
  | with_reducible refine v_addI ?_
  | with_reducible refine v_subI ?_
  | with_reducible refine v_lt ?_
  | with_reducible refine v_le ?_
  | with_reducible refine v_gt ?_
  | with_reducible refine v_ge ?_
  | with_reducible refine v_eqI ?_
  | with_reducible refine v_eqS ?_
  | with_reducible refine v_neS ?_
  | with_reducible refine v_neI ?_)
local macro_rules | `(tactic| walk_at "go") => `(tactic| repeat walk_at "go1")

section
variable {w : World} {P : Program} {mg : Str → Option Value} {K : PySem.W.Frag} {base : Heap}
def sp_are_heads (K : PySem.W.Frag) : Sp := fun vs H Q _ => ∃ v d, vs = [v] ∧ Dp K H v d ∧ Fit d ∧ ∀ H', Same H H' → Q (.bl (headsB d)) H'
theorem headsB_no {d : PyData} (h : tuplesB d 8 2 = false) : headsB d = false := by
  unfold headsB
  split
  · rw [h]; rfl
  · rfl
theorem use_heads {K : PySem.W.Frag} {H : Hp} {Q : VK} {E : XK} {v : V} {d : PyData} (hd : Dp K H v d) (hf : Fit d) (k : ∀ H', Same H H' → Q (.bl (headsB d)) H') : sp_are_heads K [v] H Q E := ⟨v, d, rfl, hd, hf, k⟩

theorem ok_are_heads (T : Tx P w K mg base) : DefOk P w K mg base 2 ("are_heads", none) ["heads"] (sp_are_heads K) := by
  refine mkOk T.f_are_heads sc_are_heads (fun vs H Q E h => ?_) (fun _ _ _ _ _ _ us hl => match us, hl with | [_], _ => rfl) (fun cdv A outer s H vs Q E hr h => ?_)
  · obtain ⟨v, d, rfl, hd, hf, k⟩ := h
    rfl
  · obtain ⟨v, d, rfl, hd, hf, k⟩ := h
    refine ⟨_, (pss_cons (ps_if (PW.pt (pw_or (pt_not (pt_val (kc (ok_are_tuples (K := K) T) T.g_are_tuples (hr.mono (by decide)) pB (pa_cons (pv 0) (pa_cons (kgI T.g_MOST_HEADS) (pa_cons pe_int pa_nil)))))) (pw_or1 (pt_cmpR (eqK K rfl hr) (pv 0) (pe_lst pa_nil) (nomark _))))) (pss_one (ps_ret pe_bl)) pss_nil)
      (pss_cons (ps_set (i := 1) sc_are_heads.nd rfl (Or.inl rfl) (pe_lst pa_nil))
      (pss_cons (ps_for (passes_of rfl) rfl (psqK K rfl (pv 0)) (gtK (n := 2) K rfl rfl (pgs_cons (pg_name (i := 2) sc_are_heads.nd rfl (Or.inl rfl)) (pgs_cons (pg_name (i := 3) sc_are_heads.nd rfl (Or.inl rfl)) pgs_nil))) (pss_cons (ps_if (PW.pt (pw_or (pt_not (pt_val (kc (ok_is_name (K := K) T) T.g_is_name (hr.mono (by decide)) pB (pa_cons (pv 2) pa_nil)))) (pw_or (pt_cmpR (inK K rfl hr) (pv 2) (pv 1) (by rfl)) (pw_or1 (PW.pt (pw_and (pt_cmpR (neK K rfl hr) (pv 3) pe_str (nomark _)) (pw_and1 (pt_cmpR (niK K rfl hr) (pv 3) (pv 1) (by rfl))))))))) (pss_one (ps_ret pe_bl)) pss_nil)
      (pss_one (ps_expr (bmK K rfl PySem.F.plainAttrs_list PySem.F.slot_list_append PySem.F.type_list_append mt_append (pv 1) (pa_cons (pv 2) pa_nil))))))
      (pss_one (ps_ret pe_bl))))), ?_⟩
    walk_at "go"
    refine use_tuples hd (by decide) fun H1 s1 => ?_
    cases e : tuplesB d 8 2 with
    | false =>
      walk_at "go"
      have := k _ s1
      rw [headsB_no e] at this
      exact this
    | true =>
      obtain ⟨ds, rfl, hl, ht⟩ := tuplesB_list e
      obtain ⟨a, xs, rfl, hs, ha⟩ := dp_lst hd
      walk_at "go"
      refine ⟨by show 0 ≤ sizeLine; decide, fun p1 hp1 => ?_⟩
      have s2 := s1.trans (Same.new (o := .lst []) hp1)
      refine v_eqF (Dp.same s2 hd) (.lst (SqL.of upd_same) .nil) hf fit_nil ?_
      rw [eqv_nil]
      cases ds with
      | nil =>
        rw [show ([] : List PyData).isEmpty = true from rfl]
        walk_at "go"
        exact k _ s2
      | cons d0 dr =>
      rw [show (d0 :: dr).isEmpty = false from rfl]
      have hB : headsB (.list (d0 :: dr)) = headsGo [] (d0 :: dr) := by
        show (tuplesB (.list (d0 :: dr)) 8 2 && (true && headsGo [] (d0 :: dr))) = _
        rw [e]
        rfl
      rw [hB] at k
      generalize d0 :: dr = ds at *
      walk_at "go"
      refine ⟨by show 0 ≤ sizeLine; decide, fun l hl0 => ?_⟩
      walk_at "go"
      refine s_isL ?_
      walk_at "go"
      have nH : H l = none := by
        cases q : H l with
        | none => rfl
        | some u => rw [s2.at_ q] at hl0; cases hl0
      refine ⟨a, rfl, ⟨_, (s2.trans (Same.new hl0)).seq hs⟩, ?_⟩
      refine for_it (walk_list (xs := xs)) (fun i σ H' => (∃ v2 v3, σ = [some (.ref a), some (.ref l), v2, v3]) ∧ Same H H' ∧ ∃ ns : List Str, H' l = some (.lst (ns.map V.str)) ∧ ns.length = i ∧ (∀ s ∈ ns, PyData.strOk s = true ∧ s.length ≤ 8) ∧ headsGo [] ds = headsGo ns (ds.drop i)) ?_ (fun _ _ _ _ h => h.2.1.seq hs) ?_ ?_
      · exact ⟨⟨none, none, rfl⟩, s2.trans (Same.new hl0), [], upd_same, rfl, (fun s hs => nomatch hs), rfl⟩
      · rintro i x σ H2 H2' hi ⟨⟨v2, v3, rfl⟩, s3, ns, hn, hnl, hok, hgo⟩ ⟨rfl, hx⟩
        obtain ⟨d, hd1, hd2⟩ := DpAll.at_ (DpAll.same s3 ha) hx
        have hdm := List.mem_of_getElem? hd1
        obtain ⟨dx, dy, rfl⟩ := tupN_2 (ht d hdm)
        obtain ⟨b, x, y, rfl, hb, hx1, hy1⟩ := dp_t2 hd2
        have hft := hf.lst_mem hdm
        have hfx : Fit dx := hft.tup_mem (by simp)
        have hfy : Fit dy := hft.tup_mem (by simp)
        rw [drop_at hd1] at hgo
        refine s_gsT hb rfl ?_
        walk_at "go"
        refine ⟨x, rfl, knd_dp hx1 hfx.sm, ?_⟩
        cases e1 : nameB x with
        | false =>
          walk_at "go"
          have := k _ s3
          rw [hgo, headsGo_no (by rw [← dp_nm hx1]; exact e1)] at this
          exact this
        | true =>
          obtain ⟨n, rfl⟩ := nameB_str e1
          have en : nameS n = true := e1
          cases hx1
          have hR : headsGo [] ds = ((nameS n && (!decide (n ∈ ns) && upB ns dy)) && headsGo (ns ++ [n]) (ds.drop (i + 1))) := hgo
          rw [en] at hR
          walk_at "go"
          refine v_inStr (SqL.of hn) ?_
          walk_at "go"
          refine it2 (fun e2 => ?_) (fun e2 => ?_)
          · walk_at "go"
            have := k _ s3
            rw [hR, decide_eq_true e2] at this
            exact this
          rw [decide_eq_false e2] at hR
          walk_at "go"
          refine v_neF hy1 (.str _) hfy fit_em ?_
          rw [eqv_strR]
          have fin : upB ns dy = true → (∃ v2 v3, [some (.ref a), some (.ref l), some (.str n), some y] = [some (V.ref a), some (V.ref l), v2, v3]) ∧ Same H (upd H2' l (.lst (ns.map V.str ++ [.str n]))) ∧ ∃ ns' : List Str, (upd H2' l (.lst (ns.map V.str ++ [.str n]))) l = some (.lst (ns'.map V.str)) ∧ ns'.length = i + 1 ∧ (∀ s ∈ ns', PyData.strOk s = true ∧ s.length ≤ 8) ∧ headsGo [] ds = headsGo ns' (ds.drop (i + 1)) := by
            intro hu
            refine ⟨⟨_, _, rfl⟩, s3.mut nH, ns ++ [n], by rw [upd_same, List.map_append]; rfl, by rw [List.length_append, hnl]; rfl, fun s hs => ?_, by rw [hR, hu]; rfl⟩
            rcases List.mem_append.mp hs with hs | hs
            · exact hok s hs
            · rw [List.mem_singleton.mp hs]
              exact ⟨hfx.strok, (nameS_len en).1⟩
          have hsz : (ns.map V.str).length < sizeLine := by
            rw [List.length_map, hnl]
            exact Nat.lt_of_lt_of_le hi (by rw [DpAll.len ha]; exact sz (by omega))
          cases e3 : dIs dy "" with
          | true =>
            walk_at "go"
            refine ⟨.inl ⟨rfl, _, SqL.of hn⟩, ?_⟩
            walk_at "go"
            refine v_app hn hsz ?_
            exact fin (by rw [upB, e3]; rfl)
          | false =>
            walk_at "go"
            refine v_niF hy1 (.lst (SqL.of hn) DpAll.strs) hfy (fit_strs hok) ?_
            rw [any_dIn]
            walk_at "go"
            cases e4 : dIn dy ns with
            | true =>
              walk_at "go"
              refine ⟨.inl ⟨rfl, _, SqL.of hn⟩, ?_⟩
              walk_at "go"
              refine v_app hn hsz ?_
              exact fin (by rw [upB, e4, Bool.or_true])
            | false =>
              walk_at "go"
              have := k _ s3
              rw [hR, upB, e3, e4] at this
              exact this
      · rintro σ H2 ⟨⟨v2, v3, rfl⟩, s3, ns, hn, hnl, hok, hgo⟩
        walk_at "go"
        have := k _ s3
        rw [hgo, DpAll.len ha, List.drop_length] at this
        exact this

def sp_are_limits (K : PySem.W.Frag) : Sp := fun vs H Q _ => ∃ v d l ns days, vs = [v, .ref l, .int days] ∧ Dp K H v d ∧ Fit d ∧ SqL K H l (ns.map V.str) ∧ (∀ s ∈ ns, PyData.strOk s = true ∧ s.length ≤ 8) ∧ ∀ H', Same H H' → Q (.bl (limitsB d ns days)) H'
theorem use_limits {K : PySem.W.Frag} {H : Hp} {Q : VK} {E : XK} {v : V} {d : PyData} {l : Addr} {ns : List Str} {days : Int} (hd : Dp K H v d) (hf : Fit d) (hl : SqL K H l (ns.map V.str)) (hn : ∀ s ∈ ns, PyData.strOk s = true ∧ s.length ≤ 8) (k : ∀ H', Same H H' → Q (.bl (limitsB d ns days)) H') : sp_are_limits K [v, .ref l, .int days] H Q E := ⟨v, d, l, ns, days, rfl, hd, hf, hl, hn, k⟩
theorem limitsB_no {d : PyData} {ns : List Str} {days : Int} (h : tuplesB d 6 4 = false) : limitsB d ns days = false := by
  unfold limitsB
  split
  · rw [h]; rfl
  · rfl

theorem ok_are_limits (T : Tx P w K mg base) : DefOk P w K mg base 3 ("are_limits", none) ["limits", "names", "days"] (sp_are_limits K) := by
  refine mkOk T.f_are_limits sc_are_limits (fun vs H Q E h => ?_) (fun _ _ _ _ _ _ us hl => match us, hl with | [_, _, _], _ => rfl) (fun cdv A outer s H vs Q E hr h => ?_)
  · obtain ⟨v, d, l, ns, days, rfl, hd, hf, hl, hns, k⟩ := h
    rfl
  · obtain ⟨v, d, l, ns, days, rfl, hd, hf, hl, hns, k⟩ := h
    refine ⟨_, (pss_cons (ps_if (pt_not (pt_val (kc (ok_are_tuples (K := K) T) T.g_are_tuples (hr.mono (by decide)) pB (pa_cons (pv 0) (pa_cons (kgI T.g_MOST_LIMITS) (pa_cons pe_int pa_nil)))))) (pss_one (ps_ret pe_bl)) pss_nil)
      (pss_cons (ps_for (passes_of rfl) rfl (psqK K rfl (pv 0)) (gtK (n := 4) K rfl rfl (pgs_cons (pg_name (i := 3) sc_are_limits.nd rfl (Or.inl rfl)) (pgs_cons (pg_name (i := 4) sc_are_limits.nd rfl (Or.inl rfl)) (pgs_cons (pg_name (i := 5) sc_are_limits.nd rfl (Or.inl rfl)) (pgs_cons (pg_name (i := 6) sc_are_limits.nd rfl (Or.inl rfl)) pgs_nil))))) (pss_cons (ps_if (PW.pt (pw_or (pt_cmpR (niK K rfl hr) (pv 3) (pv 1) (by rfl)) (pw_or (pt_not (pt_val (kc (ok_within (K := K) T) T.g_within (hr.mono (by decide)) pB (pa_cons (pv 4) (pa_cons pe_int (pa_cons (pv 2) pa_nil)))))) (pw_or1 (pt_not (pt_val (kc (ok_within (K := K) T) T.g_within (hr.mono (by decide)) pB (pa_cons (pv 5) (pa_cons (pv 4) (pa_cons (pv 2) pa_nil)))))))))) (pss_one (ps_ret pe_bl)) pss_nil)
      (pss_one (ps_if (pt_not (pt_val (kc (ok_within (K := K) T) T.g_within (hr.mono (by decide)) pB (pa_cons (pv 6) (pa_cons pe_int (pa_cons (kgI T.g_GREATEST) pa_nil)))))) (pss_one (ps_ret pe_bl)) pss_nil))))
      (pss_one (ps_ret pe_bl)))), ?_⟩
    walk_at "go"
    refine use_tuples hd (by decide) fun H1 s1 => ?_
    cases e : tuplesB d 6 4 with
    | false =>
      walk_at "go"
      have := k _ s1
      rw [limitsB_no e] at this
      exact this
    | true =>
      obtain ⟨ds, rfl, hln, ht⟩ := tuplesB_list e
      obtain ⟨a, xs, rfl, hs, ha⟩ := dp_lst hd
      have hB : limitsB (.list ds) ns days = ds.all (limB ns days) := by
        show (tuplesB (.list ds) 6 4 && ds.all (limB ns days)) = _
        rw [e]
        rfl
      rw [hB] at k
      walk_at "go"
      refine s_isL ?_
      walk_at "go"
      refine ⟨a, rfl, ⟨_, s1.seq hs⟩, ?_⟩
      refine for_it (walk_list (xs := xs)) (fun i σ H' => (∃ v3 v4 v5 v6, σ = [some (.ref a), some (.ref l), some (.int days), v3, v4, v5, v6]) ∧ Same H H' ∧ ds.all (limB ns days) = (ds.drop i).all (limB ns days)) ?_ (fun _ _ _ _ h => h.2.1.seq hs) ?_ ?_
      · exact ⟨⟨none, none, none, none, rfl⟩, s1, rfl⟩
      · rintro i x σ H2 H2' hi ⟨⟨v3, v4, v5, v6, rfl⟩, s3, hgo⟩ ⟨rfl, hx⟩
        obtain ⟨d, hd1, hd2⟩ := DpAll.at_ (DpAll.same s3 ha) hx
        have hdm := List.mem_of_getElem? hd1
        obtain ⟨dh, df, dl, dm, rfl⟩ := tupN_4 (ht d hdm)
        obtain ⟨b, xh, xf, xl, xm, rfl, hb, h1, h2, h3, h4⟩ := dp_t4 hd2
        have hft := hf.lst_mem hdm
        have f1 : Fit dh := hft.tup_mem (by simp)
        have f2 : Fit df := hft.tup_mem (by simp)
        have f3 : Fit dl := hft.tup_mem (by simp)
        have f4 : Fit dm := hft.tup_mem (by simp)
        rw [drop_at hd1, List.all_cons] at hgo
        have no : limB ns days (.tuple [dh, df, dl, dm]) = false → Q (.bl false) H2' := fun h => by
          have := k _ s3
          rw [hgo, h] at this
          exact this
        refine s_gsT hb rfl ?_
        walk_at "go"
        refine v_niF h1 (.lst (s3.seq hl) DpAll.strs) f1 (fit_strs hns) ?_
        rw [any_dIn]
        walk_at "go"
        cases e1 : dIn dh ns with
        | false =>
          walk_at "go"
          exact no (by simp [limB, e1])
        | true =>
        walk_at "go"
        refine ⟨xf, 1, days, rfl, knd_dp h2 f2.sm, ?_⟩
        walk_at "go"
        cases e2 : withinB xf 1 days with
        | false =>
          walk_at "go"
          exact no (by simp [limB, e1, ← dp_within h2, e2])
        | true =>
        obtain ⟨fi, rfl, _, _⟩ := withinB_int e2
        cases h2
        have e2' : withinD (.int fi) 1 days = true := e2
        walk_at "go"
        refine ⟨xl, fi, days, rfl, knd_dp h3 f3.sm, ?_⟩
        walk_at "go"
        cases e3 : withinB xl fi days with
        | false =>
          walk_at "go"
          exact no (by simp [limB, e1, e2', ← dp_within h3, e3])
        | true =>
        walk_at "go"
        refine ⟨xm, 0, GRT, rfl, knd_dp h4 f4.sm, ?_⟩
        walk_at "go"
        cases e4 : withinB xm 0 GRT with
        | false =>
          walk_at "go"
          exact no (by simp [limB, ← dp_within h4, e4])
        | true =>
        walk_at "go"
        refine ⟨⟨_, _, _, _, rfl⟩, s3, ?_⟩
        rw [hgo, show limB ns days (.tuple [dh, .int fi, dl, dm]) = true from by simp [limB, e1, e2', ← dp_within h3, e3, ← dp_within h4, e4]]
        rfl
      · rintro σ H2 ⟨⟨v3, v4, v5, v6, rfl⟩, s3, hgo⟩
        walk_at "go"
        have := k _ s3
        rw [hgo, DpAll.len ha, List.drop_length] at this
        exact this
end
end Kn

set_option Elab.async false
set_option linter.all false
set_option maxRecDepth 100000
set_option maxHeartbeats 4000000
namespace Kn
open PySem PySem.Spec PyProof.Rows L2
local macro_rules | `(tactic| walk_at "go1") => `(tactic| first
  | with_reducible refine s_seq ?_
  | with_reducible refine s_var rfl ?_
  | with_reducible refine s_c ?_
  | with_reducible refine s_cons ?_
  | with_reducible refine s_nil ?_
  | with_reducible refine s_asg ?_
  | with_reducible refine s_name ?_
  | with_reducible refine s_op ?_
  | with_reducible refine s_call ?_
  | with_reducible refine s_cb ?_
  | with_reducible refine s_ret ?_
  | with_reducible refine s_drop ?_
  | with_reducible refine s_next ?_
  | with_reducible refine s_ifs ?_
  | with_reducible refine s_test ?_
  | with_reducible refine s_tB ?_
  | with_reducible refine s_blP ?_
  | with_reducible refine s_intP ?_
  | with_reducible refine iteT ?_
  | with_reducible refine iteF ?_
  | with_reducible refine ite_not ?_
  | with_reducible refine s_and ?_
  | with_reducible refine s_or ?_
  | with_reducible refine s_not ?_
  | with_reducible refine s_andV ?_
  | with_reducible refine s_orV ?_
  | with_reducible refine s_notV ?_
  | with_reducible refine s_chain ?_
  | with_reducible refine s_sub ?_
  | with_reducible refine s_bm ?_
  | with_reducible refine s_sl ?_
  | with_reducible refine s_part ?_
  | with_reducible refine s_nop ?_
  | with_reducible refine s_make ?_
  | with_reducible refine s_un ?_
  | with_reducible refine s_ifE ?_
  | with_reducible refine s_dget ?_
  | with_reducible refine s_dget2 ?_
  | with_reducible refine s_dnew ?_
  | with_reducible refine s_ivals ?_
  | with_reducible refine s_brk ?_
  | with_reducible refine s_gcons ?_
  | with_reducible refine s_gnil ?_
  | with_reducible refine s_meth ?_
  | with_reducible refine s_rev ?_
  | with_reducible refine s_lc ?_
  | with_reducible refine s_rng1 ?_
  | with_reducible refine s_ilst ?_
  | with_reducible refine s_istr ?_
  | with_reducible refine s_for ?_
  | with_reducible refine s_yes ?_
  | with_reducible refine s_wipe rfl ?_
  | with_reducible refine s_kget ?_
  | with_reducible refine s_strP ?_
  | with_reducible refine s_fldS ?_
  | with_reducible refine s_fld ?_
  | with_reducible refine s_tup ?_
  | with_reducible refine s_lst ?_
  | with_reducible refine v_addI ?_
  | with_reducible refine v_subI ?_
  | with_reducible refine v_lt ?_
  | with_reducible refine v_le ?_
  | with_reducible refine v_gt ?_
  | with_reducible refine v_ge ?_
  | with_reducible refine v_eqI ?_
  | with_reducible refine v_eqS ?_
  | with_reducible refine v_neS ?_
  | with_reducible refine v_neI ?_)
local macro_rules | `(tactic| walk_at "go") => `(tactic| repeat walk_at "go1")

section
variable {w : World} {P : Program} {mg : Str → Option Value} {K : PySem.W.Frag} {base : Heap}
def sp_are_rules (K : PySem.W.Frag) : Sp := fun vs H Q _ => ∃ v d l ns days, vs = [v, .ref l, .int days] ∧ Dp K H v d ∧ Fit d ∧ SqL K H l (ns.map V.str) ∧ (∀ s ∈ ns, PyData.strOk s = true ∧ s.length ≤ 8) ∧ ∀ H', Same H H' → Q (.bl (rulesB d ns days)) H'
theorem use_rules {K : PySem.W.Frag} {H : Hp} {Q : VK} {E : XK} {v : V} {d : PyData} {l : Addr} {ns : List Str} {days : Int} (hd : Dp K H v d) (hf : Fit d) (hl : SqL K H l (ns.map V.str)) (hn : ∀ s ∈ ns, PyData.strOk s = true ∧ s.length ≤ 8) (k : ∀ H', Same H H' → Q (.bl (rulesB d ns days)) H') : sp_are_rules K [v, .ref l, .int days] H Q E := ⟨v, d, l, ns, days, rfl, hd, hf, hl, hn, k⟩
theorem rulesB_no {d : PyData} {ns : List Str} {days : Int} (h : tuplesB d 4 4 = false) : rulesB d ns days = false := by
  unfold rulesB
  split
  · rw [h]; rfl
  · rfl
theorem but_updS {l : Addr} {H H' : Hp} {o : HO} (s : Same H H') : But l H (upd H' l o) := fun b u n e => by
  rw [upd_ne n]
  exact s b u e
def RTup (H : Hp) (s : Int × Int) (v : V) : Prop := ∃ p, v = .ref p ∧ H p = some (.tup [.int s.1, .int s.2])
theorem RTup.same {H H' : Hp} (s : Same H H') {a : Int × Int} {v : V} (h : RTup H a v) : RTup H' a v := by
  obtain ⟨p, h1, h2⟩ := h
  exact ⟨p, h1, s.at_ h2⟩
theorem ruleOk_no {ns : List Str} {days : Int} {ss : Sums} {h p w u : PyData} {r : List PyData} (hh : ruleOk ns days h p w u = false) : ruleGo ns days ss (.tuple [h, p, w, u] :: r) = none := by
  show (if ruleOk ns days h p w u = true then _ else none) = none
  rw [hh]
  rfl
theorem ruleOk_yes {ns : List Str} {days : Int} {ss : Sums} {h : Str} {p w : Int} {u : PyData} {r : List PyData} (hh : ruleOk ns days (.str h) (.int p) (.int w) u = true) : ruleGo ns days ss (.tuple [.str h, .int p, .int w, u] :: r) = ruleGo ns days (sumS ss h p w) r := by
  show (if ruleOk ns days (.str h) (.int p) (.int w) u = true then ruleGo ns days (sumS ss h p w) r else none) = _
  rw [hh]
  rfl
theorem dIn_str {d : PyData} {ns : List Str} (h : dIn d ns = true) : ∃ s, d = .str s ∧ s ∈ ns := by
  cases d with
  | str s => exact ⟨s, rfl, of_decide_eq_true h⟩
  | _ => cases h
theorem m64 {x y : Int} (h : 0 ≤ y) (h2 : y ≤ 1000) : CMul x y := .inr ⟨by omega, by omega⟩
theorem m64l {x y : Int} (h : 0 ≤ x) (h2 : x ≤ 1000) : CMul x y := .inl ⟨by omega, by omega⟩

theorem ok_are_rules (T : Tx P w K mg base) : DefOk P w K mg base 3 ("are_rules", none) ["rules", "names", "days"] (sp_are_rules K) := by
  refine mkOk T.f_are_rules sc_are_rules (fun vs H Q E h => ?_) (fun _ _ _ _ _ _ us hl => match us, hl with | [_, _, _], _ => rfl) (fun cdv A outer s H vs Q E hr h => ?_)
  · obtain ⟨v, d, l, ns, days, rfl, hd, hf, hl, hns, k⟩ := h
    rfl
  · obtain ⟨v, d, l, ns, days, rfl, hd, hf, hl, hns, k⟩ := h
    refine ⟨_, (pss_cons (ps_if (pt_not (pt_val (kc (ok_are_tuples (K := K) T) T.g_are_tuples (hr.mono (by decide)) pB (pa_cons (pv 0) (pa_cons (kgI T.g_MOST_RULES) (pa_cons pe_int pa_nil)))))) (pss_one (ps_ret pe_bl)) pss_nil)
      (pss_cons (ps_set (i := 3) sc_are_rules.nd rfl (Or.inl rfl) pe_dnewK)
      (pss_cons (ps_for (passes_of rfl) rfl (psqK K rfl (pv 0)) (gtK (n := 4) K rfl rfl (pgs_cons (pg_name (i := 4) sc_are_rules.nd rfl (Or.inl rfl)) (pgs_cons (pg_name (i := 5) sc_are_rules.nd rfl (Or.inl rfl)) (pgs_cons (pg_name (i := 6) sc_are_rules.nd rfl (Or.inl rfl)) (pgs_cons (pg_name (i := 7) sc_are_rules.nd rfl (Or.inl rfl)) pgs_nil))))) (pss_cons (ps_if (PW.pt (pw_or (pt_cmpR (niK K rfl hr) (pv 4) (pv 1) (by rfl)) (pw_or (pt_not (pt_val (kc (ok_within (K := K) T) T.g_within (hr.mono (by decide)) pB (pa_cons (pv 6) (pa_cons pe_int (pa_cons (kgI T.g_MOST_WHOLE) pa_nil)))))) (pw_or1 (pt_not (pt_val (kc (ok_within (K := K) T) T.g_within (hr.mono (by decide)) pB (pa_cons (pv 5) (pa_cons pe_int (pa_cons (pv 6) pa_nil)))))))))) (pss_one (ps_ret pe_bl)) pss_nil)
      (pss_cons (ps_if (pt_not (pt_val (kc (ok_within (K := K) T) T.g_within (hr.mono (by decide)) pB (pa_cons (pv 7) (pa_cons pe_int (pa_cons (pe_op kAdd (pv 2) pe_int) pa_nil)))))) (pss_one (ps_ret pe_bl)) pss_nil)
      (pss_cons (ps_asg (pe_dget2 (hu_of hr) (pv 3) (pv 4) (pe_tup (pa_cons pe_int (pa_cons pe_int pa_nil))) (by exact ⟨rfl, rfl, rfl, rfl⟩)) (gtK (n := 2) K rfl rfl (pgs_cons (pg_name (i := 8) sc_are_rules.nd rfl (Or.inl rfl)) (pgs_cons (pg_name (i := 9) sc_are_rules.nd rfl (Or.inl rfl)) pgs_nil))))
      (pss_one (ps_asg (pe_tup (pa_cons (pe_op kAdd (pe_op kMul (pv 8) (pv 6)) (pe_op kMul (pv 5) (pv 9))) (pa_cons (pe_op kMul (pv 9) (pv 6)) pa_nil))) (pg_sub (pv 3) (pv 4) (kSet hr))))))))
      (pss_one (ps_ret (pe_callB (allK K rfl rfl) rfl T.n_all (by decide +kernel) (pa_cons (pe_lock (pe_lc (own := [("top", 8), ("bottom", 9)]) rfl sc_are_rules.nd (pi_values (pv 3)) (blkOk_by (N := nm_are_rules) (sc := defScope s_are_rules) (by decide +kernel)) (fun _ _ _ _ _ => (gtK (n := 2) K rfl rfl (pgs_cons (pg_name (i := 8) sc_are_rules.nd rfl (Or.inl rfl)) (pgs_cons (pg_name (i := 9) sc_are_rules.nd rfl (Or.inl rfl)) pgs_nil)))) (fun _ _ _ _ _ => pts_nil) (fun _ _ _ _ _ => (pe_cmpR kLe (pv 8) (pv 9) (nomark _))))) pa_nil))))))), ?_⟩
    walk_at "go"
    refine use_tuples hd (by decide) fun H1 s1 => ?_
    cases e : tuplesB d 4 4 with
    | false =>
      walk_at "go"
      have := k _ s1
      rw [rulesB_no e] at this
      exact this
    | true =>
      obtain ⟨ds, rfl, hln, ht⟩ := tuplesB_list e
      obtain ⟨a, xs, rfl, hs, ha⟩ := dp_lst hd
      have hB : rulesB (.list ds) ns days = (match ruleGo ns days [] ds with | some ss => ss.all (fun x => decide (x.2.1 ≤ x.2.2)) | none => false) := by
        show (tuplesB (.list ds) 4 4 && (match ruleGo ns days [] ds with | some ss => ss.all (fun x => decide (x.2.1 ≤ x.2.2)) | none => false)) = _
        rw [e]
        rfl
      rw [hB] at k
      walk_at "go"
      refine fun S hS0 => ?_
      have hS : H S = none := by
        cases q : H S with
        | none => rfl
        | some u => rw [s1.at_ q] at hS0; cases hS0
      walk_at "go"
      refine s_isL ?_
      walk_at "go"
      refine ⟨a, rfl, ⟨_, (s1.mut hS).seq hs⟩, ?_⟩
      refine for_it (walk_list (xs := xs)) (fun i σ H' => (∃ v4 v5 v6 v7 v8 v9, σ = [some (.ref a), some (.ref l), some (.int days), some (.ref S), v4, v5, v6, v7, v8, v9]) ∧ Same H H' ∧ ∃ ss kvs, H' S = some (.dK kvs) ∧ ss.length ≤ i ∧ Paired (SV (RTup (hid S H'))) ss kvs ∧ ruleGo ns days [] ds = ruleGo ns days ss (ds.drop i)) ?_ (fun _ _ _ _ h => h.2.1.seq hs) ?_ ?_
      · exact ⟨⟨none, none, none, none, none, none, rfl⟩, s1.mut hS, [], [], upd_same, Nat.zero_le _, .nil, rfl⟩
      · rintro i x σ H2 H2' hi ⟨⟨v4, v5, v6, v7, v8, v9, rfl⟩, s3, ss, kvs, hkv, hssl, hpr, hgo⟩ ⟨rfl, hx⟩
        obtain ⟨d, hd1, hd2⟩ := DpAll.at_ (DpAll.same s3 ha) hx
        have hdm := List.mem_of_getElem? hd1
        obtain ⟨dh, dp, dw, du, rfl⟩ := tupN_4 (ht d hdm)
        obtain ⟨b, xh, xp, xw, xu, rfl, hb, h1, h2, h3, h4⟩ := dp_t4 hd2
        have hft := hf.lst_mem hdm
        have f1 : Fit dh := hft.tup_mem (by simp)
        have f2 : Fit dp := hft.tup_mem (by simp)
        have f3 : Fit dw := hft.tup_mem (by simp)
        have f4 : Fit du := hft.tup_mem (by simp)
        rw [drop_at hd1] at hgo
        have no : ruleOk ns days dh dp dw du = false → Q (.bl false) H2' := fun h => by
          have := k _ s3
          rw [hgo, ruleOk_no h] at this
          exact this
        refine s_gsT hb rfl ?_
        walk_at "go"
        refine v_niF h1 (.lst (s3.seq hl) DpAll.strs) f1 (fit_strs hns) ?_
        rw [any_dIn]
        walk_at "go"
        cases e1 : dIn dh ns with
        | false =>
          walk_at "go"
          exact no (by simp [ruleOk, e1])
        | true =>
        obtain ⟨h, rfl, hmem⟩ := dIn_str e1
        cases h1
        walk_at "go"
        refine ⟨xw, 1, 1000, rfl, knd_dp h3 f3.sm, ?_⟩
        walk_at "go"
        cases e2 : withinB xw 1 1000 with
        | false =>
          walk_at "go"
          exact no (by simp [ruleOk, e1, ← dp_within h3, e2])
        | true =>
        obtain ⟨wi, rfl, hw1, hw2⟩ := withinB_int e2
        cases h3
        have e2' : withinD (.int wi) 1 1000 = true := e2
        walk_at "go"
        refine ⟨xp, 0, wi, rfl, knd_dp h2 f2.sm, ?_⟩
        walk_at "go"
        cases e3 : withinB xp 0 wi with
        | false =>
          walk_at "go"
          exact no (by simp [ruleOk, e1, e2', ← dp_within h2, e3])
        | true =>
        obtain ⟨pi, rfl, hp1, hp2⟩ := withinB_int e3
        cases h2
        have e3' : withinD (.int pi) 0 wi = true := e3
        walk_at "go"
        refine ⟨xu, 2, days + 1, rfl, knd_dp h4 f4.sm, ?_⟩
        walk_at "go"
        cases e4 : withinB xu 2 (days + 1) with
        | false =>
          walk_at "go"
          exact no (by simp [ruleOk, e1, e2', e3', ← dp_within h4, e4])
        | true =>
        walk_at "go"
        have hY : ruleOk ns days (.str h) (.int pi) (.int wi) du = true := by simp [ruleOk, e1, e2', e3', ← dp_within h4, e4]
        rw [ruleOk_yes hY] at hgo
        refine ⟨S, rfl, .inl ⟨kvs, .inl hkv⟩, ?_⟩
        walk_at "go"
        refine ⟨by show 2 ≤ sizeLine; decide, fun p1 hp1 => ?_⟩
        have sN := Same.new (o := .tup [.int 0, .int 1]) hp1
        have nS1 : S ≠ p1 := ne_of_none hkv hp1
        have sg : ∃ (t b : Int) (vv : V), getS ss h = getS ss h ∧ ((getS ss h).getD (0, 1)) = (t, b) ∧ ((valV kvs (.inr h)).getD (.ref p1)) = vv ∧ RTup (upd H2' p1 (.tup [.int 0, .int 1])) (t, b) vv := by
          rcases sv_get (k := h) hpr with ⟨⟨t, b⟩, v, g1, g2, g3⟩ | ⟨g1, g2⟩
          · exact ⟨t, b, v, rfl, by rw [g1]; rfl, by rw [g2]; rfl, (g3.same hid_le).same sN⟩
          · exact ⟨0, 1, .ref p1, rfl, by rw [g1]; rfl, by rw [g2]; rfl, p1, rfl, upd_same⟩
        obtain ⟨tt, bb, vv, _, g1, g2, pt, rfl, g3⟩ := sg
        refine ⟨valV kvs (.inr h), DGet.k (k := .inr h) (sN.at_ hkv), ?_⟩
        rw [g2]
        refine s_gsT (SqT.of g3) rfl ?_
        walk_at "go"
        refine v_mulI (m64 (by omega) (by omega)) ?_
        walk_at "go"
        refine v_mulI (m64l (by omega) (by omega)) ?_
        walk_at "go"
        refine v_mulI (m64 (by omega) (by omega)) ?_
        walk_at "go"
        refine ⟨by show 2 ≤ sizeLine; decide, fun p2 hp2 => ?_⟩
        have sM := sN.trans (Same.new (o := .tup [.int (tt * wi + pi * bb), .int (bb * wi)]) hp2)
        walk_at "go"
        refine v_setD (k := .inr h) (sM.at_ hkv) ?_ ?_
        · rw [sv_len hpr]
          exact Nat.lt_of_le_of_lt hssl (Nat.lt_of_lt_of_le hi (by rw [DpAll.len ha]; exact sz (by omega)))
        · have nS2 : S ≠ p2 := ne_of_none (sN.at_ hkv) hp2
          have bt := hid_same (but_updS (o := .dK (putK kvs (.inr h) (.ref p2))) (l := S) sM)
          refine ⟨⟨_, _, _, _, _, _, rfl⟩, (s3.trans sM).mut hS, sumS ss h pi wi, _, upd_same, Nat.le_trans (putS_len _ _ _) (Nat.succ_le_succ hssl), ?_, hgo⟩
          refine sv_put (sv_imp (fun _ _ z => z.same bt) hpr) ⟨p2, rfl, ?_⟩
          rw [g1]
          refine hid_of ?_ nS2.symm
          rw [upd_ne nS2.symm]
          exact upd_same
      · rintro σ H2 ⟨⟨v4, v5, v6, v7, v8, v9, rfl⟩, s3, ss, kvs, hkv, hssl, hpr, hgo⟩
        rw [DpAll.len ha, List.drop_length] at hgo
        walk_at "go"
        refine s_lockE hkv ?_ fun od => ?_
        · trivial
        · have hS2 : (upd H2 S (.frz od (.dK kvs))) S = some (.frz od (.dK kvs)) := upd_same
          have hpr2 := sv_imp (fun _ _ z => RTup.same (hid_same (But.upd (w := S) (H := H2) (o := .frz od (.dK kvs)))) z) hpr
          generalize hH3 : upd H2 S (.frz od (.dK kvs)) = H3 at *
          walk_at "go"
          refine ⟨S, od, kvs, rfl, hS2, fun D hD => lc_it (walk_values (kvs := kvs)) (fun i H' => Same H3 H' ∧ H' D = some (.lst (((ss.take i).map (fun x => decide (x.2.1 ≤ x.2.2))).map V.bl))) ?_ (fun _ _ _ h => h.1.at_ hS2) ?_ ?_⟩
          · exact ⟨Same.new hD, upd_same⟩
          · rintro i x H4 H4' hi ⟨s4, q4⟩ ⟨rfl, kk, hx⟩
            obtain ⟨s, hs1, hs2, pt, hs3, hs4⟩ := sv_at hpr2 hx
            dsimp only at hs3
            subst hs3
            refine s_gsT (SqT.of (s4.at_ (hid_le.at_ hs4))) rfl ?_
            walk_at "go"
            refine ⟨_, q4, ?_, s4.mut hD, ?_⟩
            · rw [List.length_map, List.length_map]
              exact Nat.lt_of_le_of_lt (List.length_take_le' _ _) (Nat.lt_of_le_of_lt hssl (Nat.lt_of_le_of_lt (show xs.length ≤ 4 by rw [DpAll.len ha]; omega) (by decide)))
            · rw [upd_same, List.take_add_one, hs1, List.map_append, List.map_append]
              rfl
          · rintro H4 ⟨s4, q4⟩
            rw [sv_len hpr, List.take_length] at q4
            have hSD : S ≠ D := ne_of_none hS2 hD
            refine ⟨s4.at_ hS2, D, _, rfl, SqL.of (by rw [upd_ne hSD.symm]; exact q4), ?_⟩
            have sF : Same H (upd H4 S (.dK kvs)) := fun b u eb => by
              have nb : b ≠ S := ne_of_none eb hS
              rw [upd_ne nb]
              refine s4.at_ ?_
              rw [← hH3, upd_ne nb]
              exact s3.at_ eb
            have := k _ sF
            rw [hgo] at this
            rw [List.all_map]
            exact this
end
end Kn

set_option Elab.async false
set_option linter.all false
set_option maxRecDepth 100000
set_option maxHeartbeats 4000000
namespace Kn
open PySem PySem.Spec PyProof.Rows L2
local macro_rules | `(tactic| walk_at "go1") => `(tactic| first
  | with_reducible refine s_seq ?_
  | with_reducible refine s_var rfl ?_
  | with_reducible refine s_c ?_
  | with_reducible refine s_cons ?_
  | with_reducible refine s_nil ?_
  | with_reducible refine s_asg ?_
  | with_reducible refine s_name ?_
  | with_reducible refine s_op ?_
  | with_reducible refine s_call ?_
  | with_reducible refine s_cb ?_
  | with_reducible refine s_ret ?_
  | with_reducible refine s_drop ?_
  | with_reducible refine s_next ?_
  | with_reducible refine s_ifs ?_
  | with_reducible refine s_test ?_
  | with_reducible refine s_tB ?_
  | with_reducible refine s_blP ?_
  | with_reducible refine s_intP ?_
  | with_reducible refine iteT ?_
  | with_reducible refine iteF ?_
  | with_reducible refine ite_not ?_
  | with_reducible refine s_and ?_
  | with_reducible refine s_or ?_
  | with_reducible refine s_not ?_
  | with_reducible refine s_andV ?_
  | with_reducible refine s_orV ?_
  | with_reducible refine s_notV ?_
  | with_reducible refine s_chain ?_
  | with_reducible refine s_sub ?_
  | with_reducible refine s_bm ?_
  | with_reducible refine s_sl ?_
  | with_reducible refine s_part ?_
  | with_reducible refine s_nop ?_
  | with_reducible refine s_make ?_
  | with_reducible refine s_un ?_
  | with_reducible refine s_ifE ?_
  | with_reducible refine s_dget ?_
  | with_reducible refine s_dget2 ?_
  | with_reducible refine s_dnew ?_
  | with_reducible refine s_ivals ?_
  | with_reducible refine s_brk ?_
  | with_reducible refine s_gcons ?_
  | with_reducible refine s_gnil ?_
  | with_reducible refine s_meth ?_
  | with_reducible refine s_rev ?_
  | with_reducible refine s_lc ?_
  | with_reducible refine s_rng1 ?_
  | with_reducible refine s_ilst ?_
  | with_reducible refine s_istr ?_
  | with_reducible refine s_for ?_
  | with_reducible refine s_yes ?_
  | with_reducible refine s_wipe rfl ?_
  | with_reducible refine s_kget ?_
  | with_reducible refine s_strP ?_
  | with_reducible refine s_fldS ?_
  | with_reducible refine s_fld ?_
  | with_reducible refine s_tup ?_
  | with_reducible refine s_lst ?_
  | with_reducible refine v_addI ?_
  | with_reducible refine v_subI ?_
  | with_reducible refine v_lt ?_
  | with_reducible refine v_le ?_
  | with_reducible refine v_gt ?_
  | with_reducible refine v_ge ?_
  | with_reducible refine v_eqI ?_
  | with_reducible refine v_eqS ?_
  | with_reducible refine v_neS ?_
  | with_reducible refine v_neI ?_)
local macro_rules | `(tactic| walk_at "go") => `(tactic| repeat walk_at "go1")

section
variable {w : World} {P : Program} {mg : Str → Option Value} {K : PySem.W.Frag} {base : Heap}
def YearOk (days : Int) (hs : List (Str × Str)) (ls rs : List PyData) : Prop := 1 ≤ days ∧ days ≤ 30 ∧ Heads hs ∧ limitsB (.list ls) (hs.map (·.1)) days = true ∧ rulesB (.list rs) (hs.map (·.1)) days = true
def sp_Year___init__ (K : PySem.W.Frag) : Sp := fun vs H Q E => ∃ p dx v1 v2 v3 v4 d1 d2 d3 d4, vs = [.ref p, v1, v2, v3, v4] ∧ H p = some (.ins (He.ga K "Year") dx []) ∧ (Dp K H v1 d1 ∧ Dp K H v2 d2 ∧ Dp K H v3 d3 ∧ Dp K H v4 d4) ∧ (Fit d1 ∧ Fit d2 ∧ Fit d3 ∧ Fit d4) ∧
  (∀ days hs ls rs va vb vc, d1 = .int days → d2 = .list (hs.map hD) → d3 = .list ls → d4 = .list rs → DpAll K H va (hs.map hD) → DpAll K H vb ls → DpAll K H vc rs → YearOk days hs ls rs → ∀ a b c H', H a = none → H b = none → H c = none → a ≠ b → a ≠ c → b ≠ c → But p H H' →
    H' p = some (.ins (He.ga K "Year") dx (yfs days a b c)) → H' a = some (.lst va) → H' b = some (.lst vb) → H' c = some (.lst vc) → Q .non H') ∧
  ((∀ days hs ls rs, d1 = .int days → d2 = .list (hs.map hD) → d3 = .list ls → d4 = .list rs → ¬ YearOk days hs ls rs) → ∀ H', Same H H' → E (.ref (He.ga K "NoYear")) none H')
def f1s (days : Int) : List (Str × V) := [("days", .int days)]
def f2s (days : Int) (a : Addr) : List (Str × V) := [("days", .int days), ("heads", .ref a)]
def f3s (days : Int) (a b : Addr) : List (Str × V) := [("days", .int days), ("heads", .ref a), ("limits", .ref b)]
theorem But.new {p a : Addr} {H H' : Hp} {o : HO} (b : But p H H') (h : H' a = none) : But p H (L2.upd H' a o) := fun c u n e => by
  have e2 := b c u n e
  rw [upd_ne (ne_of_none e2 h)]
  exact e2
theorem But.free {p a : Addr} {H H' : Hp} {o : HO} (b : But p H H') (hp : H' p = some o) (h : H' a = none) : H a = none := by
  cases q : H a with
  | none => rfl
  | some u =>
    by_cases e : a = p
    · rw [e, hp] at h; cases h
    · rw [b a u e q] at h; cases h
theorem heads_names (hs : List (Str × Str)) (h : Heads hs) : (∀ s ∈ hs.map (·.1), s.length ≤ 8) := fun s hs => (nameS_len (h.nmem hs)).1
theorem fit_heads {hs : List (Str × Str)} (h : Fit (.list (hs.map hD))) (h2 : Heads hs) : ∀ s ∈ hs.map (·.1), PyData.strOk s = true ∧ s.length ≤ 8 := fun s hs => by
  obtain ⟨p, hp, rfl⟩ := List.mem_map.mp hs
  have f1 : Fit (hD p) := h.lst_mem (List.mem_map.mpr ⟨p, hp, rfl⟩)
  have f2 : Fit (.str p.1) := Fit.tup_mem (xs := [.str p.1, .str p.2]) f1 (by simp)
  exact ⟨f2.strok, (nameS_len (h2.nm hp).1).1⟩

theorem ok_Year___init__ (T : Tx P w K mg base) : DefOk P w K mg base 4 ("Year", some "__init__") ["self", "days", "heads", "limits", "rules"] (sp_Year___init__ K) := by
  refine mkOk T.f_Year___init__ sc_Year___init__ (fun vs H Q E h => ?_) (fun _ _ _ _ _ _ us hl => match us, hl with | [_, _, _, _, _], _ => rfl) (fun cdv A outer s H vs Q E hr h => ?_)
  · obtain ⟨p, dx, v1, v2, v3, v4, d1, d2, d3, d4, rfl, hp, ⟨h1, h2, h3, h4⟩, ⟨f1, f2, f3, f4⟩, k1, k2⟩ := h
    rfl
  · obtain ⟨p, dx, v1, v2, v3, v4, d1, d2, d3, d4, rfl, hp, ⟨h1, h2, h3, h4⟩, ⟨f1, f2, f3, f4⟩, k1, k2⟩ := h
    refine ⟨_, (pss_cons (ps_if (PW.pt (pw_or (pt_not (pt_val (kc (ok_within (K := K) T) T.g_within (hr.mono (by decide)) pB (pa_cons (pv 1) (pa_cons pe_int (pa_cons (kgI T.g_MOST_DAYS) pa_nil)))))) (pw_or1 (pt_not (pt_val (kc (ok_are_heads (K := K) T) T.g_are_heads (hr.mono (by decide)) pB (pa_cons (pv 2) pa_nil))))))) (pss_one (ps_raise rfl (takes_of rfl rfl rfl rfl) (pmk_own PySem.F.excBase_ValueError T.x_NoYear.1 T.g_NoYear T.x_NoYear.2.1 (raises_own T.x_NoYear.2.2.1 T.x_NoYear.2.2.2) (by exact rfl)))) pss_nil)
      (pss_cons (ps_setLc (i := 5) (own := [("name", 6), ("above", 7)]) rfl sc_Year___init__.nd rfl rfl (sw_true rfl rfl rfl (by decide +kernel)) (psqK K rfl (pv 2)) (blkOk_by (N := nm_Year___init__) (sc := defScope s_Year___init__) (by decide +kernel)) (fun _ _ _ _ _ => (gtK (n := 2) K rfl rfl (pgs_cons (pg_name (i := 6) sc_Year___init__.nd rfl (Or.inl rfl)) (pgs_cons (pg_name (i := 7) sc_Year___init__.nd rfl (Or.inl rfl)) pgs_nil)))) (fun _ _ _ _ _ => pts_nil) (fun _ _ _ _ _ => (pv 6)))
      (pss_cons (ps_if (PW.pt (pw_or (pt_not (pt_val (kc (ok_are_limits (K := K) T) T.g_are_limits (hr.mono (by decide)) pB (pa_cons (pv 3) (pa_cons (pv 5) (pa_cons (pv 1) pa_nil)))))) (pw_or1 (pt_not (pt_val (kc (ok_are_rules (K := K) T) T.g_are_rules (hr.mono (by decide)) pB (pa_cons (pv 4) (pa_cons (pv 5) (pa_cons (pv 1) pa_nil))))))))) (pss_one (ps_raise rfl (takes_of rfl rfl rfl rfl) (pmk_own PySem.F.excBase_ValueError T.x_NoYear.1 T.g_NoYear T.x_NoYear.2.1 (raises_own T.x_NoYear.2.2.1 T.x_NoYear.2.2.2) (by exact rfl)))) pss_nil)
      (pss_cons (psfK K rfl (pv 0) (pv 1) rfl)
      (pss_cons (psfK K rfl (pv 0) (pe_callTy (listK K rfl) rfl T.n_list (by decide +kernel) (pa_cons (pv 2) pa_nil)) rfl)
      (pss_cons (psfK K rfl (pv 0) (pe_callTy (listK K rfl) rfl T.n_list (by decide +kernel) (pa_cons (pv 3) pa_nil)) rfl)
      (pss_one (psfK K rfl (pv 0) (pe_callTy (listK K rfl) rfl T.n_list (by decide +kernel) (pa_cons (pv 4) pa_nil)) rfl)))))))), ?_⟩
    walk_at "go"
    refine ⟨v1, 1, 30, rfl, knd_dp h1 f1.sm, ?_⟩
    cases e1 : withinB v1 1 30 with
    | false =>
      walk_at "go"
      refine k2 ?_ _ (Same.refl _)
      rintro days hs ls rs rfl - - - ⟨y1, y2, -⟩
      cases h1
      rw [show withinB (.int days) 1 30 = true from by simp [withinB, y1, y2]] at e1
      cases e1
    | true =>
    obtain ⟨days, rfl, hd1, hd2⟩ := withinB_int e1
    cases h1
    walk_at "go"
    refine use_heads h2 f2 fun H1 s1 => ?_
    cases e2 : headsB d2 with
    | false =>
      walk_at "go"
      refine k2 ?_ _ s1
      rintro days hs ls rs - rfl - - ⟨-, -, y3, -⟩
      rw [y3.b] at e2
      cases e2
    | true =>
    obtain ⟨hs, rfl, hh⟩ := heads_of e2
    have hns := fit_heads f2 hh
    obtain ⟨a2, va, rfl, hva, hda⟩ := dp_lst h2
    walk_at "go"
    refine s_isL ?_
    walk_at "go"
    refine ⟨a2, rfl, ⟨_, s1.seq hva⟩, fun D hD => lc_it (walk_list (xs := va)) (fun i H' => Same H H' ∧ H' D = some (.lst (((hs.take i).map (·.1)).map V.str))) ?_ (fun _ _ _ h => h.1.seq hva) ?_ ?_⟩
    · exact ⟨s1.trans (Same.new hD), upd_same⟩
    · rintro i x H2 H2' hi ⟨s3, q3⟩ ⟨rfl, hx⟩
      obtain ⟨pr, t, hpr, rfl, ht⟩ := heads_at (DpAll.same s3 hda) hx
      refine s_gsT ht rfl ?_
      walk_at "go"
      have nD : H D = none := by
        cases q : H D with
        | none => rfl
        | some u => rw [s1.at_ q] at hD; cases hD
      refine ⟨_, q3, ?_, s3.mut nD, ?_⟩
      · rw [List.length_map, List.length_map]
        exact Nat.lt_of_le_of_lt (List.length_take_le' _ _) (Nat.lt_of_le_of_lt hh.le (by decide))
      · rw [upd_same, List.take_add_one, hpr, List.map_append, List.map_append]
        rfl
    rintro H3 ⟨s3, q3⟩
    rw [DpAll.len hda, List.length_map, List.take_length] at q3
    walk_at "go"
    have noY : (limitsB d3 (hs.map (·.1)) days = false ∨ rulesB d4 (hs.map (·.1)) days = false) → ∀ H', Same H H' → E (.ref (He.ga K "NoYear")) none H' := fun hc H' s' => by
      refine k2 ?_ _ s'
      rintro days hs' ls rs e1 e2 rfl rfl ⟨-, -, -, y4, y5⟩
      injection e1 with e1
      subst e1
      injection e2 with e2
      have e3 : hs.map (·.1) = hs'.map (·.1) := by
        have := congrArg (List.map fun d => match d with | PyData.tuple [.str n, _] => n | _ => "") e2
        rw [List.map_map, List.map_map] at this
        exact this
      rw [e3, y4, y5] at hc
      rcases hc with hc | hc <;> cases hc
    refine use_limits (Dp.same s3 h3) f3 (SqL.of q3) hns fun H4 s4 => ?_
    cases e3 : limitsB d3 (hs.map (·.1)) days with
    | false =>
      walk_at "go"
      exact noY (.inl e3) _ (s3.trans s4)
    | true =>
    walk_at "go"
    refine use_rules (Dp.same (s3.trans s4) h4) f4 (SqL.of (s4.at_ q3)) hns fun H5 s5 => ?_
    cases e4 : rulesB d4 (hs.map (·.1)) days with
    | false =>
      walk_at "go"
      exact noY (.inr e4) _ (s3.trans (s4.trans s5))
    | true =>
    obtain ⟨ls, rfl⟩ : ∃ ls, d3 = .list ls := by
      cases d3 with
      | list ls => exact ⟨ls, rfl⟩
      | _ => cases e3
    obtain ⟨rs, rfl⟩ : ∃ rs, d4 = .list rs := by
      cases d4 with
      | list ls => exact ⟨ls, rfl⟩
      | _ => cases e4
    obtain ⟨a3, vb, rfl, hvb, hdb⟩ := dp_lst h3
    obtain ⟨a4, vc, rfl, hvc, hdc⟩ := dp_lst h4
    have sA := s3.trans (s4.trans s5)
    walk_at "go"
    refine v_fldS (fs := []) (sA.at_ hp) T.c_Year T.a_Year_days (by show 0 < 1000; decide) (by rfl) ?_
    change tSeq _ _ _ _ (upd H5 p (.ins (He.ga K "Year") dx (f1s days)))
    walk_at "go"
    have hpn : ∀ {a : Addr} {xs : List V}, SqL K H a xs → SqL K (upd H5 p (.ins (He.ga K "Year") dx (f1s days))) a xs := fun {a xs} h => by
      have := sA.seq h
      rcases this with (q | ⟨o, q⟩) | q
      · exact .inl (.inl (by rw [upd_ne (fun z => by rw [z, sA.at_ hp] at q; cases q)]; exact q))
      · exact .inl (.inr ⟨o, by rw [upd_ne (fun z => by rw [z, sA.at_ hp] at q; cases q)]; exact q⟩)
      · exact .inr q
    have q1 := hpn hva
    have q2 := hpn hvb
    have q3' := hpn hvc
    have b6 : But p H (upd H5 p (.ins (He.ga K "Year") dx (f1s days))) := (sA.but).trans But.upd
    have p6 : (upd H5 p (.ins (He.ga K "Year") dx (f1s days))) p = some (.ins (He.ga K "Year") dx (f1s days)) := upd_same
    generalize upd H5 p (.ins (He.ga K "Year") dx (f1s days)) = H6 at *
    refine v_listL q1 fun a ha => ?_
    walk_at "go"
    have na := b6.free p6 ha
    have pa : p ≠ a := ne_of_none p6 ha
    refine v_fldS (by rw [upd_ne pa]; exact p6) T.c_Year T.a_Year_heads (by show 1 < 1000; decide) (by rfl) ?_
    change tSeq _ _ _ _ (upd (upd H6 a (.lst va)) p (.ins (He.ga K "Year") dx (f2s days a)))
    walk_at "go"
    have b7 := (b6.new (o := .lst va) ha).trans (But.upd (o := .ins (He.ga K "Year") dx (f2s days a)))
    have hpn2 : ∀ {z : Addr} {xs : List V}, SqL K H6 z xs → SqL K (upd (upd H6 a (.lst va)) p (.ins (He.ga K "Year") dx (f2s days a))) z xs := fun {z xs} h => by
      rcases h with (q | ⟨o, q⟩) | q
      · exact .inl (.inl (by rw [upd_ne (fun y => by rw [y, p6] at q; cases q), upd_ne (ne_of_none q ha)]; exact q))
      · exact .inl (.inr ⟨o, by rw [upd_ne (fun y => by rw [y, p6] at q; cases q), upd_ne (ne_of_none q ha)]; exact q⟩)
      · exact .inr q
    have q2 := hpn2 q2
    have q3' := hpn2 q3'
    have a7 : (upd (upd H6 a (.lst va)) p (.ins (He.ga K "Year") dx (f2s days a))) a = some (.lst va) := by rw [upd_ne pa.symm]; exact upd_same
    have p7 : (upd (upd H6 a (.lst va)) p (.ins (He.ga K "Year") dx (f2s days a))) p = some (.ins (He.ga K "Year") dx (f2s days a)) := upd_same
    generalize upd (upd H6 a (.lst va)) p (.ins (He.ga K "Year") dx (f2s days a)) = H7 at *
    refine v_listL q2 fun b hb => ?_
    walk_at "go"
    have nb := b7.free p7 hb
    have pb : p ≠ b := ne_of_none p7 hb
    have ab : a ≠ b := ne_of_none a7 hb
    refine v_fldS (by rw [upd_ne pb]; exact p7) T.c_Year T.a_Year_limits (by show 2 < 1000; decide) (by rfl) ?_
    change Ends.nx _ _ (upd (upd H7 b (.lst vb)) p (.ins (He.ga K "Year") dx (f3s days a b)))
    walk_at "go"
    have b8 := (b7.new (o := .lst vb) hb).trans (But.upd (o := .ins (He.ga K "Year") dx (f3s days a b)))
    have hpn3 : ∀ {z : Addr} {xs : List V}, SqL K H7 z xs → SqL K (upd (upd H7 b (.lst vb)) p (.ins (He.ga K "Year") dx (f3s days a b))) z xs := fun {z xs} h => by
      rcases h with (q | ⟨o, q⟩) | q
      · exact .inl (.inl (by rw [upd_ne (fun y => by rw [y, p7] at q; cases q), upd_ne (ne_of_none q hb)]; exact q))
      · exact .inl (.inr ⟨o, by rw [upd_ne (fun y => by rw [y, p7] at q; cases q), upd_ne (ne_of_none q hb)]; exact q⟩)
      · exact .inr q
    have q3' := hpn3 q3'
    have a8 : (upd (upd H7 b (.lst vb)) p (.ins (He.ga K "Year") dx (f3s days a b))) a = some (.lst va) := by rw [upd_ne pa.symm, upd_ne ab]; exact a7
    have bb8 : (upd (upd H7 b (.lst vb)) p (.ins (He.ga K "Year") dx (f3s days a b))) b = some (.lst vb) := by rw [upd_ne pb.symm]; exact upd_same
    have p8 : (upd (upd H7 b (.lst vb)) p (.ins (He.ga K "Year") dx (f3s days a b))) p = some (.ins (He.ga K "Year") dx (f3s days a b)) := upd_same
    generalize upd (upd H7 b (.lst vb)) p (.ins (He.ga K "Year") dx (f3s days a b)) = H8 at *
    refine v_listL q3' fun c hc => ?_
    walk_at "go"
    have nc := b8.free p8 hc
    have pc : p ≠ c := ne_of_none p8 hc
    have ac : a ≠ c := ne_of_none a8 hc
    have bc : b ≠ c := ne_of_none bb8 hc
    refine v_fldS (by rw [upd_ne pc]; exact p8) T.c_Year T.a_Year_rules (by show 3 < 1000; decide) (by rfl) ?_
    walk_at "go"
    refine k1 days hs ls rs va vb vc rfl rfl rfl rfl hda hdb hdc ⟨hd1, hd2, hh, e3, e4⟩ a b c _ na nb nc ab ac bc ((b8.new hc).trans But.upd) upd_same ?_ ?_ ?_
    · rw [upd_ne pa.symm, upd_ne ac]; exact a8
    · rw [upd_ne pb.symm, upd_ne bc]; exact bb8
    · rw [upd_ne pc.symm]; exact upd_same
end
end Kn

set_option Elab.async false
set_option linter.all false
set_option maxRecDepth 100000
set_option maxHeartbeats 4000000
namespace Kn
open PySem PySem.Spec PyProof.Rows L2
local macro_rules | `(tactic| walk_at "go1") => `(tactic| first
  | with_reducible refine s_seq ?_
  | with_reducible refine s_var rfl ?_
  | with_reducible refine s_c ?_
  | with_reducible refine s_cons ?_
  | with_reducible refine s_nil ?_
  | with_reducible refine s_asg ?_
  | with_reducible refine s_name ?_
  | with_reducible refine s_op ?_
  | with_reducible refine s_call ?_
  | with_reducible refine s_cb ?_
  | with_reducible refine s_ret ?_
  | with_reducible refine s_drop ?_
  | with_reducible refine s_next ?_
  | with_reducible refine s_ifs ?_
  | with_reducible refine s_test ?_
  | with_reducible refine s_tB ?_
  | with_reducible refine s_blP ?_
  | with_reducible refine s_intP ?_
  | with_reducible refine iteT ?_
  | with_reducible refine iteF ?_
  | with_reducible refine ite_not ?_
  | with_reducible refine s_and ?_
  | with_reducible refine s_or ?_
  | with_reducible refine s_not ?_
  | with_reducible refine s_andV ?_
  | with_reducible refine s_orV ?_
  | with_reducible refine s_notV ?_
  | with_reducible refine s_chain ?_
  | with_reducible refine s_sub ?_
  | with_reducible refine s_bm ?_
  | with_reducible refine s_sl ?_
  | with_reducible refine s_part ?_
  | with_reducible refine s_nop ?_
  | with_reducible refine s_make ?_
  | with_reducible refine s_un ?_
  | with_reducible refine s_ifE ?_
  | with_reducible refine s_dget ?_
  | with_reducible refine s_dget2 ?_
  | with_reducible refine s_dnew ?_
  | with_reducible refine s_ivals ?_
  | with_reducible refine s_brk ?_
  | with_reducible refine s_gcons ?_
  | with_reducible refine s_gnil ?_
  | with_reducible refine s_meth ?_
  | with_reducible refine s_rev ?_
  | with_reducible refine s_lc ?_
  | with_reducible refine s_rng1 ?_
  | with_reducible refine s_ilst ?_
  | with_reducible refine s_istr ?_
  | with_reducible refine s_for ?_
  | with_reducible refine s_yes ?_
  | with_reducible refine s_wipe rfl ?_
  | with_reducible refine s_kget ?_
  | with_reducible refine s_strP ?_
  | with_reducible refine s_fldS ?_
  | with_reducible refine s_fld ?_
  | with_reducible refine s_tup ?_
  | with_reducible refine s_lst ?_
  | with_reducible refine v_addI ?_
  | with_reducible refine v_subI ?_
  | with_reducible refine v_lt ?_
  | with_reducible refine v_le ?_
  | with_reducible refine v_gt ?_
  | with_reducible refine v_ge ?_
  | with_reducible refine v_eqI ?_
  | with_reducible refine v_eqS ?_
  | with_reducible refine v_neS ?_
  | with_reducible refine v_neI ?_)
local macro_rules | `(tactic| walk_at "go") => `(tactic| repeat walk_at "go1")

section
variable {w : World} {P : Program} {mg : Str → Option Value} {K : PySem.W.Frag} {base : Heap}
def upD (hs : List (Str × Str)) (d : PyData) : Option Str := (hs.find? fun p => dIs d p.1).map (·.2)
theorem upD_str {hs : List (Str × Str)} {s : Str} : upD hs (.str s) = upO hs s := by
  unfold upD upO
  have : (fun p : Str × Str => dIs (.str s) p.1) = fun p => decide (p.1 = s) := by
    funext p
    show decide (s = p.1) = _
    by_cases h : s = p.1
    · rw [decide_eq_true h, decide_eq_true h.symm]
    · rw [decide_eq_false h, decide_eq_false (fun e => h e.symm)]
  rw [this]
def sp_Year_names (K : PySem.W.Frag) : Sp := fun vs H Q _ => ∃ y days hs ls rs, vs = [.ref y] ∧ YearAt K H y days hs ls rs ∧ ∀ l H', H l = none → Same H H' → H' l = some (.lst ((hs.map (·.1)).map V.str)) → Q (.ref l) H'
def sp_Year_above (K : PySem.W.Frag) : Sp := fun vs H Q E => ∃ y days hs ls rs v d, vs = [.ref y, v] ∧ YearAt K H y days hs ls rs ∧ Dp K H v d ∧ Fit d ∧ (∀ s ∈ hs.map (·.1), PyData.strOk s = true ∧ s.length ≤ 8) ∧ (∀ a, upD hs d = some a → ∀ H', Same H H' → Q (.str a) H') ∧ (upD hs d = none → ∀ H', Same H H' → E (.ref (He.ga K "NoHead")) none H')
def sp_Year_knots (K : PySem.W.Frag) : Sp := fun vs H Q E => ∃ y days hs ls rs v d, vs = [.ref y, v] ∧ YearAt K H y days hs ls rs ∧ Dp K H v d ∧ Fit d ∧ (∀ s ∈ hs.map (·.1), PyData.strOk s = true ∧ s.length ≤ 8) ∧ (∀ s, d = .str s → s ∈ hs.map (·.1) → ∀ l H', H l = none → Same H H' → H' l = some (.lst ((knotsN hs s).map V.str)) → Q (.ref l) H') ∧ ((∀ s, d = .str s → s ∉ hs.map (·.1)) → ∀ H', Same H H' → E (.ref (He.ga K "NoHead")) none H')
def sp_Year_under (K : PySem.W.Frag) : Sp := fun vs H Q E => ∃ y days hs ls rs v d, vs = [.ref y, v] ∧ YearAt K H y days hs ls rs ∧ Dp K H v d ∧ Fit d ∧ (∀ s ∈ hs.map (·.1), PyData.strOk s = true ∧ s.length ≤ 8) ∧ (∀ s, d = .str s → s ∈ hs.map (·.1) → ∀ l H', H l = none → Same H H' → H' l = some (.lst ((underN hs s).map V.str)) → Q (.ref l) H') ∧ ((∀ s, d = .str s → s ∉ hs.map (·.1)) → ∀ H', Same H H' → E (.ref (He.ga K "NoHead")) none H')
theorem upD_in {hs : List (Str × Str)} {d : PyData} {a : Str} (h : upD hs d = some a) : ∃ s, d = .str s ∧ s ∈ hs.map (·.1) ∧ upN hs s = a := by
  cases d with
  | str s =>
    rw [upD_str] at h
    refine ⟨s, rfl, ?_, by unfold upN; rw [h]; rfl⟩
    unfold upO at h
    obtain ⟨p, h1, h2⟩ := Option.map_eq_some_iff.mp h
    have h3 := List.find?_some h1
    exact List.mem_map.mpr ⟨p, List.mem_of_find?_eq_some h1, of_decide_eq_true h3⟩
  | _ =>
    exfalso
    unfold upD at h
    obtain ⟨p, h1, h2⟩ := Option.map_eq_some_iff.mp h
    have h3 := List.find?_some h1
    cases h3
theorem upD_out {hs : List (Str × Str)} {d : PyData} (h : upD hs d = none) : ∀ s, d = .str s → s ∉ hs.map (·.1) := by
  rintro s rfl hs
  obtain ⟨a, e, _⟩ := upO_some hs
  rw [upD_str, e] at h
  cases h
theorem upD_of {hs : List (Str × Str)} {s : Str} (h : s ∈ hs.map (·.1)) : upD hs (.str s) = some (upN hs s) := by
  obtain ⟨a, e, _⟩ := upO_some h
  rw [upD_str, e]
  unfold upN
  rw [e]
  rfl
theorem knots_go {hs : List (Str × Str)} {k : Nat} {n : Str} (h : ¬ n = "") : knotsF hs (k + 1) n = n :: knotsF hs k (upN hs n) := by
  show (if n = "" then [] else _) = _
  rw [if_neg h]
theorem knots_em {hs : List (Str × Str)} : ∀ {k : Nat}, knotsF hs k "" = []
  | 0 => rfl
  | k + 1 => if_pos rfl
section
variable {H : Hp} {Q : VK} {E : XK} {y : Addr} {days : Int} {hs : List (Str × Str)} {ls rs : List PyData} {s : Str}

theorem NmsOk.fit (h : NmsOk hs) (hm : s ∈ hs.map (·.1)) : Fit (.str s) := (FitN.str (n := 1) (h s hm).1 (by have := (h s hm).2; omega)).fit (by omega)
theorem use_ynames (hy : YearAt K H y days hs ls rs) (k : ∀ l H', H l = none → Same H H' → H' l = some (.lst ((hs.map (·.1)).map V.str)) → Q (.ref l) H') : sp_Year_names K [.ref y] H Q E := ⟨y, days, hs, ls, rs, rfl, hy, k⟩
theorem use_above (hy : YearAt K H y days hs ls rs) (hn : NmsOk hs) (hm : s ∈ hs.map (·.1)) (k : ∀ H', Same H H' → Q (.str (upN hs s)) H') : sp_Year_above K [.ref y, .str s] H Q E :=
  ⟨y, days, hs, ls, rs, _, .str s, rfl, hy, .str s, hn.fit hm, hn, fun a e H' s' => by rw [upD_of hm] at e; injection e with e; rw [← e]; exact k H' s', fun e => by rw [upD_of hm] at e; cases e⟩
theorem use_knots (hy : YearAt K H y days hs ls rs) (hn : NmsOk hs) (hm : s ∈ hs.map (·.1)) (k : ∀ l H', H l = none → Same H H' → H' l = some (.lst ((knotsN hs s).map V.str)) → Q (.ref l) H') : sp_Year_knots K [.ref y, .str s] H Q E :=
  ⟨y, days, hs, ls, rs, _, .str s, rfl, hy, .str s, hn.fit hm, hn, fun s' e hm' l H' h1 h2 h3 => by injection e with e; subst e; exact k l H' h1 h2 h3, fun e => (e s rfl hm).elim⟩
theorem use_under (hy : YearAt K H y days hs ls rs) (hn : NmsOk hs) (hm : s ∈ hs.map (·.1)) (k : ∀ l H', H l = none → Same H H' → H' l = some (.lst ((underN hs s).map V.str)) → Q (.ref l) H') : sp_Year_under K [.ref y, .str s] H Q E :=
  ⟨y, days, hs, ls, rs, _, .str s, rfl, hy, .str s, hn.fit hm, hn, fun s' e hm' l H' h1 h2 h3 => by injection e with e; subst e; exact k l H' h1 h2 h3, fun e => (e s rfl hm).elim⟩
end

theorem ok_Year_names (T : Tx P w K mg base) : DefOk P w K mg base 1 ("Year", some "names") ["self"] (sp_Year_names K) := by
  refine mkOk T.f_Year_names sc_Year_names (fun vs H Q E h => ?_) (fun _ _ _ _ _ _ us hl => match us, hl with | [_], _ => rfl) (fun cdv A outer s H vs Q E hr h => ?_)
  · obtain ⟨y, days, hs, ls, rs, rfl, hy, k⟩ := h
    rfl
  · obtain ⟨y, days, hs, ls, rs, rfl, hy, k⟩ := h
    refine ⟨_, (pss_one (ps_ret (pe_lc (own := [("name", 1), ("above", 2)]) rfl sc_Year_names.nd (psqK K rfl (fldK K rfl (pv 0) rfl)) (blkOk_by (N := nm_Year_names) (sc := defScope s_Year_names) (by decide +kernel)) (fun _ _ _ _ _ => (gtK (n := 2) K rfl rfl (pgs_cons (pg_name (i := 1) sc_Year_names.nd rfl (Or.inl rfl)) (pgs_cons (pg_name (i := 2) sc_Year_names.nd rfl (Or.inl rfl)) pgs_nil)))) (fun _ _ _ _ _ => pts_nil) (fun _ _ _ _ _ => (pv 1))))), ?_⟩
    obtain ⟨⟨dx, a, b, c, va, vb, vc, hi, ha, hda, _⟩, hh⟩ := hy
    walk_at "go"
    refine s_isL ?_
    walk_at "go"
    refine v_fld hi T.c_Year T.a_Year_heads (by rfl) ?_
    refine ⟨a, rfl, ⟨_, SqL.of ha⟩, fun D hD => lc_it (walk_list (xs := va)) (fun i H' => Same H H' ∧ H' D = some (.lst (((hs.take i).map (·.1)).map V.str))) ?_ (fun _ _ _ h => SqL.of (h.1.at_ ha)) ?_ ?_⟩
    · exact ⟨Same.new hD, upd_same⟩
    · rintro i x H2 H2' hi ⟨s3, q3⟩ ⟨rfl, hx⟩
      obtain ⟨pr, t, hpr, rfl, ht⟩ := heads_at (DpAll.same s3 hda) hx
      refine s_gsT ht rfl ?_
      walk_at "go"
      refine ⟨_, q3, ?_, s3.mut hD, ?_⟩
      · rw [List.length_map, List.length_map]
        exact Nat.lt_of_le_of_lt (List.length_take_le' _ _) (Nat.lt_of_le_of_lt hh.le (by decide))
      · rw [upd_same, List.take_add_one, hpr, List.map_append, List.map_append]
        rfl
    rintro H3 ⟨s3, q3⟩
    rw [DpAll.len hda, List.length_map, List.take_length] at q3
    exact k D H3 hD s3 q3

def ws_names (K : PySem.W.Frag) (C : Addr) (sp : Sp) : Prop := C = He.ga K "Year" ∧ sp = sp_Year_names K
theorem ways_names (T : Tx P w K mg base) : ∀ C sp, ws_names K C sp → Way P w K mg base 1 "names" C sp := by
  intro C sp h
  obtain ⟨rfl, rfl⟩ := h
  obtain ⟨⟨fd, F, b, _⟩, _⟩ := ok_Year_names (K := K) T
  exact ⟨T.c_Year, _, fd, _, T.m_Year_names, F, b⟩
theorem ym_names {H : Hp} {y : Addr} {days : Int} {hs : List (Str × Str)} {ls rs : List PyData} {R : Sp → Prop} (hy : YearAt K H y days hs ls rs) (h : R (sp_Year_names K)) : ∃ a C dx fs sp, V.ref y = .ref a ∧ H a = some (.ins C dx fs) ∧ ws_names K C sp ∧ fs.lookup ("names" : Str) = none ∧ R sp := by
  obtain ⟨⟨dx, a, b, c, _, _, _, h1, _⟩, _⟩ := hy
  exact ⟨y, _, dx, _, _, rfl, h1, ⟨rfl, rfl⟩, rfl, h⟩

theorem ok_Year_above (T : Tx P w K mg base) : DefOk P w K mg base 1 ("Year", some "above") ["self", "name"] (sp_Year_above K) := by
  refine mkOk T.f_Year_above sc_Year_above (fun vs H Q E h => ?_) (fun _ _ _ _ _ _ us hl => match us, hl with | [_, _], _ => rfl) (fun cdv A outer s H vs Q E hr h => ?_)
  · obtain ⟨y, days, hs, ls, rs, v, d, rfl, hy, hd, hf, hns, k1, k2⟩ := h
    rfl
  · obtain ⟨y, days, hs, ls, rs, v, d, rfl, hy, hd, hf, hns, k1, k2⟩ := h
    refine ⟨_, (pss_cons (ps_for (passes_of rfl) rfl (psqK K rfl (fldK K rfl (pv 0) rfl)) (gtK (n := 2) K rfl rfl (pgs_cons (pg_name (i := 2) sc_Year_above.nd rfl (Or.inl rfl)) (pgs_cons (pg_name (i := 3) sc_Year_above.nd rfl (Or.inl rfl)) pgs_nil))) (pss_one (ps_if (pt_cmpR (eqK K rfl hr) (pv 2) (pv 1) (nomark _)) (pss_one (ps_ret (pv 3))) pss_nil)))
      (pss_one (ps_raise rfl (takes_of rfl rfl rfl rfl) (pmk_own PySem.F.excBase_ValueError T.x_NoHead.1 T.g_NoHead T.x_NoHead.2.1 (raises_own T.x_NoHead.2.2.1 T.x_NoHead.2.2.2) (by exact rfl))))), ?_⟩
    obtain ⟨⟨dx, a, b, c, va, vb, vc, hi, ha, hda, _⟩, hh⟩ := hy
    walk_at "go"
    refine s_isL ?_
    walk_at "go"
    refine v_fld hi T.c_Year T.a_Year_heads (by rfl) ?_
    refine ⟨a, rfl, ⟨_, SqL.of ha⟩, ?_⟩
    refine for_it (walk_list (xs := va)) (fun i σ H' => (∃ v2 v3, σ = [some (.ref y), some v, v2, v3]) ∧ Same H H' ∧ upD hs d = upD (hs.drop i) d) ?_ (fun _ _ _ _ h => SqL.of (h.2.1.at_ ha)) ?_ ?_
    · exact ⟨⟨none, none, rfl⟩, Same.refl _, rfl⟩
    · rintro i x σ H2 H2' hi ⟨⟨v2, v3, rfl⟩, s3, hgo⟩ ⟨rfl, hx⟩
      obtain ⟨pr, t, hpr, rfl, ht⟩ := heads_at (DpAll.same s3 hda) hx
      have hm : pr.1 ∈ hs.map (·.1) := List.mem_map.mpr ⟨pr, List.mem_of_getElem? hpr, rfl⟩
      rw [drop_at hpr] at hgo
      refine s_gsT ht rfl ?_
      walk_at "go"
      refine v_eqF (.str pr.1) (Dp.same s3 hd) (NmsOk.fit hns hm) hf ?_
      rw [eqv_strL]
      walk_at "go"
      cases e : dIs d pr.1 with
      | true =>
        walk_at "go"
        refine k1 pr.2 ?_ _ s3
        rw [hgo]
        unfold upD
        rw [List.find?_cons, e]
        rfl
      | false =>
        walk_at "go"
        refine ⟨⟨_, _, rfl⟩, s3, ?_⟩
        rw [hgo]
        unfold upD
        rw [List.find?_cons, e]
    · rintro σ H2 ⟨⟨v2, v3, rfl⟩, s3, hgo⟩
      rw [DpAll.len hda, List.length_map, List.drop_length] at hgo
      walk_at "go"
      exact k2 hgo _ s3

def ws_above (K : PySem.W.Frag) (C : Addr) (sp : Sp) : Prop := C = He.ga K "Year" ∧ sp = sp_Year_above K
theorem ways_above (T : Tx P w K mg base) : ∀ C sp, ws_above K C sp → Way P w K mg base 1 "above" C sp := by
  intro C sp h
  obtain ⟨rfl, rfl⟩ := h
  obtain ⟨⟨fd, F, b, _⟩, _⟩ := ok_Year_above (K := K) T
  exact ⟨T.c_Year, _, fd, _, T.m_Year_above, F, b⟩
theorem ym_above {H : Hp} {y : Addr} {days : Int} {hs : List (Str × Str)} {ls rs : List PyData} {R : Sp → Prop} (hy : YearAt K H y days hs ls rs) (h : R (sp_Year_above K)) : ∃ a C dx fs sp, V.ref y = .ref a ∧ H a = some (.ins C dx fs) ∧ ws_above K C sp ∧ fs.lookup ("above" : Str) = none ∧ R sp := by
  obtain ⟨⟨dx, a, b, c, _, _, _, h1, _⟩, _⟩ := hy
  exact ⟨y, _, dx, _, _, rfl, h1, ⟨rfl, rfl⟩, rfl, h⟩

theorem ok_Year_knots (T : Tx P w K mg base) : DefOk P w K mg base 2 ("Year", some "knots") ["self", "name"] (sp_Year_knots K) := by
  refine mkOk T.f_Year_knots sc_Year_knots (fun vs H Q E h => ?_) (fun _ _ _ _ _ _ us hl => match us, hl with | [_, _], _ => rfl) (fun cdv A outer s H vs Q E hr h => ?_)
  · obtain ⟨y, days, hs, ls, rs, v, d, rfl, hy, hd, hf, hns, k1, k2⟩ := h
    rfl
  · obtain ⟨y, days, hs, ls, rs, v, d, rfl, hy, hd, hf, hns, k1, k2⟩ := h
    refine ⟨_, (pss_cons (ps_set (i := 2) sc_Year_knots.nd rfl (Or.inl rfl) (pe_lst pa_nil))
      (pss_cons (ps_set (i := 3) sc_Year_knots.nd rfl (Or.inl rfl) (pv 1))
      (pss_cons (ps_set (i := 4) sc_Year_knots.nd rfl (Or.inl rfl) (kme (pv 0) (ways_above (K := K) T) (hr.mono (by decide)) pB (pa_cons (pv 1) pa_nil)))
      (pss_cons (ps_for (passes_of rfl) rfl (pi_range1 rfl T.n_range (pa_cons (pe_callB (lenK K rfl) rfl T.n_len (by decide +kernel) (pa_cons (fldK K rfl (pv 0) rfl) pa_nil)) pa_nil)) (pg_name (i := 5) sc_Year_knots.nd rfl (Or.inl rfl)) (pss_cons (ps_expr (bmK K rfl PySem.F.plainAttrs_list PySem.F.slot_list_append PySem.F.type_list_append mt_append (pv 2) (pa_cons (pv 3) pa_nil)))
      (pss_cons (ps_if (pt_cmpR (eqK K rfl hr) (pv 4) pe_str (nomark _)) (pss_one ps_break) pss_nil)
      (pss_cons (ps_set (i := 3) sc_Year_knots.nd rfl (Or.inl rfl) (pv 4))
      (pss_one (ps_set (i := 4) sc_Year_knots.nd rfl (Or.inl rfl) (kme (pv 0) (ways_above (K := K) T) (hr.mono (by decide)) pB (pa_cons (pv 3) pa_nil))))))))
      (pss_one (ps_ret (pv 2))))))), ?_⟩
    walk_at "go"
    refine ⟨by show 0 ≤ sizeLine; decide, fun l hl => ?_⟩
    walk_at "go"
    have s1 := Same.new (o := .lst []) hl
    have hy1 := hy.same s1
    refine ym_above hy1 ?_
    walk_at "go"
    refine ⟨y, days, hs, ls, rs, v, d, rfl, hy1, Dp.same s1 hd, hf, hns, fun u hu H1 s2 => ?_, fun hu H1 s2 => k2 (upD_out hu) _ (s1.trans s2)⟩
    obtain ⟨s, rfl, hm, hup⟩ := upD_in hu
    obtain rfl := dp_strI hd
    subst hup
    have sA := s1.trans s2
    have hyA := hy.same sA
    obtain ⟨⟨dx, a, b, c, va, vb, vc, hi, ha, hda, _⟩, hh⟩ := id hyA
    walk_at "go"
    refine v_fld hi T.c_Year T.a_Year_heads (by rfl) ?_
    walk_at "go"
    refine v_lenL (SqL.of ha) ?_
    rw [DpAll.len hda, List.length_map]
    walk_at "go"
    refine ⟨_, rfl, by omega, by have := hh.le; omega, ?_⟩
    rw [Int.toNat_natCast]
    refine for_it walk_range (fun i σ H' => ∃ at_ fs v5, σ = [some (.ref y), some (.str s), some (.ref l), some (.str at_), some (.str (upN hs at_)), v5] ∧ at_ ∈ hs.map (·.1) ∧ Same H H' ∧ H' l = some (.lst (List.map V.str fs)) ∧ fs.length ≤ i ∧ fs ++ knotsF hs (hs.length - i) at_ = knotsN hs s) ?_ (fun _ _ _ _ _ => trivial) ?_ ?_
    · exact ⟨s, [], none, rfl, hm, sA, s2.at_ upd_same, Nat.le_refl _, rfl⟩
    · rintro i x σ H2 H2' hi ⟨at_, fs, v5, rfl, hat, s3, q3, hfl, hk⟩ ⟨rfl, rfl⟩
      have hne : ¬ at_ = "" := (nameS_len (hh.nmem hat)).2
      have hk2 : (fs ++ [at_]) ++ knotsF hs (hs.length - (i + 1)) (upN hs at_) = knotsN hs s := by
        rw [← hk, show hs.length - i = (hs.length - (i + 1)) + 1 by omega, knots_go hne, List.append_assoc]
        rfl
      walk_at "go"
      refine ⟨.inl ⟨rfl, _, SqL.of q3⟩, ?_⟩
      walk_at "go"
      refine v_app q3 (by rw [List.length_map]; exact sz_lt (by have := hh.le; omega)) ?_
      have q4 : (upd H2' l (.lst (List.map V.str fs ++ [V.str at_]))) l = some (.lst (List.map V.str (fs ++ [at_]))) := by
        rw [upd_same, List.map_append]
        rfl
      have s4 : Same H (upd H2' l (.lst (List.map V.str fs ++ [V.str at_]))) := s3.mut hl
      walk_at "go"
      refine it2 (fun e => ?_) (fun e => ?_)
      · walk_at "go"
        rw [e, knots_em, List.append_nil] at hk2
        rw [hk2] at q4
        exact k1 s rfl hm l _ hl s4 q4
      · walk_at "go"
        have hup : upN hs at_ ∈ hs.map (·.1) := by
          rcases hh.up hat with h | h
          · exact (e h).elim
          · exact h
        have hy4 := hy.same s4
        refine ym_above hy4 ?_
        walk_at "go"
        refine (use_above hy4 hns hup fun H5 s5 => ?_)
        walk_at "go"
        exact ⟨_, fs ++ [at_], _, rfl, hup, s4.trans s5, s5.at_ q4, by rw [List.length_append]; exact Nat.succ_le_succ hfl, hk2⟩
    · rintro σ H2 ⟨at_, fs, v5, rfl, hat, s3, q3, hfl, hk⟩
      rw [Nat.sub_self] at hk
      have hk : fs ++ [] = knotsN hs s := hk
      rw [List.append_nil] at hk
      rw [hk] at q3
      walk_at "go"
      exact k1 s rfl hm l _ hl s3 q3

def ws_knots (K : PySem.W.Frag) (C : Addr) (sp : Sp) : Prop := C = He.ga K "Year" ∧ sp = sp_Year_knots K
theorem ways_knots (T : Tx P w K mg base) : ∀ C sp, ws_knots K C sp → Way P w K mg base 2 "knots" C sp := by
  intro C sp h
  obtain ⟨rfl, rfl⟩ := h
  obtain ⟨⟨fd, F, b, _⟩, _⟩ := ok_Year_knots (K := K) T
  exact ⟨T.c_Year, _, fd, _, T.m_Year_knots, F, b⟩
theorem ym_knots {H : Hp} {y : Addr} {days : Int} {hs : List (Str × Str)} {ls rs : List PyData} {R : Sp → Prop} (hy : YearAt K H y days hs ls rs) (h : R (sp_Year_knots K)) : ∃ a C dx fs sp, V.ref y = .ref a ∧ H a = some (.ins C dx fs) ∧ ws_knots K C sp ∧ fs.lookup ("knots" : Str) = none ∧ R sp := by
  obtain ⟨⟨dx, a, b, c, _, _, _, h1, _⟩, _⟩ := hy
  exact ⟨y, _, dx, _, _, rfl, h1, ⟨rfl, rfl⟩, rfl, h⟩

theorem ok_Year_under (T : Tx P w K mg base) : DefOk P w K mg base 3 ("Year", some "under") ["self", "name"] (sp_Year_under K) := by
  refine mkOk T.f_Year_under sc_Year_under (fun vs H Q E h => ?_) (fun _ _ _ _ _ _ us hl => match us, hl with | [_, _], _ => rfl) (fun cdv A outer s H vs Q E hr h => ?_)
  · obtain ⟨y, days, hs, ls, rs, v, d, rfl, hy, hd, hf, hns, k1, k2⟩ := h
    rfl
  · obtain ⟨y, days, hs, ls, rs, v, d, rfl, hy, hd, hf, hns, k1, k2⟩ := h
    refine ⟨_, (pss_cons (ps_expr (kme (pv 0) (ways_above (K := K) T) (hr.mono (by decide)) pB (pa_cons (pv 1) pa_nil)))
      (pss_one (ps_ret (pe_lc (own := [("one", 2)]) rfl sc_Year_under.nd (psqK K rfl (kme0 (pv 0) (ways_names (K := K) T) (hr.mono (by decide)) pB)) (blkOk_by (N := nm_Year_under) (sc := defScope s_Year_under) (by decide +kernel)) (fun _ _ _ _ _ => (pg_name (i := 2) sc_Year_under.nd rfl (Or.inl rfl))) (fun _ _ _ _ _ => (pts_one (pt_cmpR (inK K rfl hr) (pv 1) (kme (pv 0) (ways_knots (K := K) T) (hr.mono (by decide)) passL (pa_cons (pv 2) pa_nil)) (by rfl)))) (fun _ _ _ _ _ => (pv 2)))))), ?_⟩
    walk_at "go"
    refine ym_above hy ?_
    walk_at "go"
    refine ⟨y, days, hs, ls, rs, v, d, rfl, hy, hd, hf, hns, fun u hu H1 s2 => ?_, fun hu H1 s2 => k2 (upD_out hu) _ s2⟩
    obtain ⟨s, rfl, hm, hup⟩ := upD_in hu
    obtain rfl := dp_strI hd
    have hy2 := hy.same s2
    have hh := hy.hd
    walk_at "go"
    refine s_isL ?_
    walk_at "go"
    refine ym_names hy2 ?_
    walk_at "go"
    refine (use_ynames hy2 fun l H3 hl s3 q3 => ?_)
    walk_at "go"
    have sA := s2.trans s3
    refine ⟨l, rfl, ⟨_, SqL.of q3⟩, fun D hD => lc_it (walk_list (xs := (hs.map (·.1)).map V.str)) (fun i H' => Same H3 H' ∧ H' D = some (.lst ((((hs.map (·.1)).take i).filter fun o => decide (s ∈ knotsN hs o)).map V.str))) ?_ (fun _ _ _ h => SqL.of (h.1.at_ q3)) ?_ ?_⟩
    · exact ⟨Same.new hD, upd_same⟩
    · rintro i x H4 H4' hi ⟨s4, q4⟩ ⟨rfl, hx⟩
      rw [List.getElem?_map] at hx
      obtain ⟨n, hn, rfl⟩ := Option.map_eq_some_iff.mp hx
      have hnm : n ∈ hs.map (·.1) := List.mem_of_getElem? hn
      have hy4 := hy.same (sA.trans s4)
      walk_at "go"
      refine ym_knots hy4 ?_
      walk_at "go"
      refine (use_knots hy4 hns hnm fun l2 H5 hl2 s5 q5 => ?_)
      refine v_inStr (SqL.of q5) ?_
      walk_at "go"
      have et : (hs.map (·.1)).take (i + 1) = (hs.map (·.1)).take i ++ [n] := by rw [List.take_add_one, hn]; rfl
      refine it2 (fun hin => ?_) (fun hin => ?_)
      · walk_at "go"
        refine ⟨_, s5.at_ q4, ?_, (s4.trans s5).mut hD, ?_⟩
        · rw [List.length_map]
          refine sz_lt (Nat.le_trans (List.length_filter_le _ _) (Nat.le_trans (List.length_take_le' _ _) ?_))
          rw [List.length_map]
          have := hh.le
          omega
        · rw [upd_same, et, List.filter_append, List.map_append]
          simp [hin]
      · refine ⟨s4.trans s5, ?_⟩
        rw [et, List.filter_append, s5.at_ q4]
        simp [hin]
    · rintro H4 ⟨s4, q4⟩
      rw [List.take_of_length_le (by simp)] at q4
      exact k1 s rfl hm D _ (free_of (sA) hD) (sA.trans s4) q4

def ws_under (K : PySem.W.Frag) (C : Addr) (sp : Sp) : Prop := C = He.ga K "Year" ∧ sp = sp_Year_under K
theorem ways_under (T : Tx P w K mg base) : ∀ C sp, ws_under K C sp → Way P w K mg base 3 "under" C sp := by
  intro C sp h
  obtain ⟨rfl, rfl⟩ := h
  obtain ⟨⟨fd, F, b, _⟩, _⟩ := ok_Year_under (K := K) T
  exact ⟨T.c_Year, _, fd, _, T.m_Year_under, F, b⟩
theorem ym_under {H : Hp} {y : Addr} {days : Int} {hs : List (Str × Str)} {ls rs : List PyData} {R : Sp → Prop} (hy : YearAt K H y days hs ls rs) (h : R (sp_Year_under K)) : ∃ a C dx fs sp, V.ref y = .ref a ∧ H a = some (.ins C dx fs) ∧ ws_under K C sp ∧ fs.lookup ("under" : Str) = none ∧ R sp := by
  obtain ⟨⟨dx, a, b, c, _, _, _, h1, _⟩, _⟩ := hy
  exact ⟨y, _, dx, _, _, rfl, h1, ⟨rfl, rfl⟩, rfl, h⟩
end
end Kn

set_option Elab.async false
set_option linter.all false
set_option maxRecDepth 100000
set_option maxHeartbeats 4000000
namespace Kn
open PySem PySem.Spec PyProof.Rows L2
local macro_rules | `(tactic| walk_at "go1") => `(tactic| first
  | with_reducible refine s_seq ?_
  | with_reducible refine s_var rfl ?_
  | with_reducible refine s_c ?_
  | with_reducible refine s_cons ?_
  | with_reducible refine s_nil ?_
  | with_reducible refine s_asg ?_
  | with_reducible refine s_name ?_
  | with_reducible refine s_op ?_
  | with_reducible refine s_call ?_
  | with_reducible refine s_cb ?_
  | with_reducible refine s_ret ?_
  | with_reducible refine s_drop ?_
  | with_reducible refine s_next ?_
  | with_reducible refine s_ifs ?_
  | with_reducible refine s_test ?_
  | with_reducible refine s_tB ?_
  | with_reducible refine s_blP ?_
  | with_reducible refine s_intP ?_
  | with_reducible refine iteT ?_
  | with_reducible refine iteF ?_
  | with_reducible refine ite_not ?_
  | with_reducible refine s_and ?_
  | with_reducible refine s_or ?_
  | with_reducible refine s_not ?_
  | with_reducible refine s_andV ?_
  | with_reducible refine s_orV ?_
  | with_reducible refine s_notV ?_
  | with_reducible refine s_chain ?_
  | with_reducible refine s_sub ?_
  | with_reducible refine s_bm ?_
  | with_reducible refine s_sl ?_
  | with_reducible refine s_part ?_
  | with_reducible refine s_nop ?_
  | with_reducible refine s_make ?_
  | with_reducible refine s_un ?_
  | with_reducible refine s_ifE ?_
  | with_reducible refine s_dget ?_
  | with_reducible refine s_dget2 ?_
  | with_reducible refine s_dnew ?_
  | with_reducible refine s_ivals ?_
  | with_reducible refine s_brk ?_
  | with_reducible refine s_gcons ?_
  | with_reducible refine s_gnil ?_
  | with_reducible refine s_meth ?_
  | with_reducible refine s_rev ?_
  | with_reducible refine s_lc ?_
  | with_reducible refine s_rng1 ?_
  | with_reducible refine s_ilst ?_
  | with_reducible refine s_istr ?_
  | with_reducible refine s_for ?_
  | with_reducible refine s_yes ?_
  | with_reducible refine s_wipe rfl ?_
  | with_reducible refine s_kget ?_
  | with_reducible refine s_strP ?_
  | with_reducible refine s_fldS ?_
  | with_reducible refine s_fld ?_
  | with_reducible refine s_tup ?_
  | with_reducible refine s_lst ?_
  | with_reducible refine v_addI ?_
  | with_reducible refine v_subI ?_
  | with_reducible refine v_lt ?_
  | with_reducible refine v_le ?_
  | with_reducible refine v_gt ?_
  | with_reducible refine v_ge ?_
  | with_reducible refine v_eqI ?_
  | with_reducible refine v_eqS ?_
  | with_reducible refine v_neS ?_
  | with_reducible refine v_neI ?_)
local macro_rules | `(tactic| walk_at "go") => `(tactic| repeat walk_at "go1")

section
variable {w : World} {P : Program} {mg : Str → Option Value} {K : PySem.W.Frag} {base : Heap}
def sp_Lwell (K : PySem.W.Frag) : Sp := fun vs H Q _ => ∃ z : Int, vs = [.int z] ∧ ∀ p H', H p = none → Same H H' → WellAt H' p → Q (.ref p) H'
def sp_Ldraw (K : PySem.W.Frag) : Sp := fun vs H Q _ => ∃ (w : Addr) (n : Int), vs = [.ref w, .int n] ∧ WellAt H w ∧ 0 < n ∧ n < 2 ^ 100 ∧ ∀ r H', 0 ≤ r → r < n → Dr w H H' → Q (.int r) H'
theorem div_ok {n : Int} (h0 : 0 < n) (h : n < 2 ^ 100) : CDivW 0 n := wide_div (b := 100) h0 (by omega) (by decide) (by decide)

theorem ok_Lwell (T : Tx P w K mg base) : DefOk P w K mg base 1 ("_law_well", none) ["_law_cell"] (sp_Lwell K) := by
  refine mkOk T.f_Lwell sc_Lwell (fun vs H Q E h => ?_) (fun _ _ _ _ _ _ us hl => match us, hl with | [_], _ => rfl) (fun cdv A outer s H vs Q E hr h => ?_)
  · obtain ⟨z, rfl, k⟩ := h
    rfl
  · obtain ⟨z, rfl, k⟩ := h
    refine ⟨_, (pss_one (ps_ret (pe_lst (pa_cons (pe_op kMul (pv 0) (pe_callTy kInt1 rfl T.n_int (by decide +kernel) (pa_cons (pe_cmpR kGe (pv 0) (pe_op kPow pe_int pe_int) (nomark _)) pa_nil))) (pa_cons (pe_op kMod (pv 0) pe_int) (pa_cons pe_int pa_nil)))))), ?_⟩
    walk_at "go"
    refine v_powI ⟨by decide, by decide, by decide⟩ ?_
    walk_at "go"
    refine v_int1b ?_
    walk_at "go"
    refine v_mulI (.inr (by split <;> decide)) ?_
    walk_at "go"
    refine v_modI (by decide) ?_
    walk_at "go"
    exact ⟨by show 3 ≤ sizeLine; decide, fun p hp => k p _ hp (Same.new hp) ⟨_, _, _, upd_same⟩⟩

theorem m31 (x : Int) : -(2 ^ 64) < x.fmod 2147483647 ∧ x.fmod 2147483647 < 2 ^ 64 := by
  have := fmod_lt (a := x) (n := 2147483647) (by decide)
  omega
theorem ok_Ldraw (T : Tx P w K mg base) : DefOk P w K mg base 1 ("_law_draw", none) ["_law_well_here", "_law_many"] (sp_Ldraw K) := by
  refine mkOk T.f_Ldraw sc_Ldraw (fun vs H Q E h => ?_) (fun _ _ _ _ _ _ us hl => match us, hl with | [_, _], _ => rfl) (fun cdv A outer s H vs Q E hr h => ?_)
  · obtain ⟨w0, n, rfl, ⟨a, b, c, hw⟩, hn, hb, k⟩ := h
    rfl
  · obtain ⟨w0, n, rfl, ⟨a, b, c, hw⟩, hn, hb, k⟩ := h
    refine ⟨_, (pss_cons (ps_if (pt_cmpR kGt (pe_ix (ixK K rfl) (pv 0) pe_int (fun _ _ => rfl)) pe_int (nomark _)) (pss_cons (ps_set (i := 2) sc_Ldraw.nd rfl (Or.inl rfl) (pe_op kMod (pe_ix (ixK K rfl) (pv 0) pe_int (fun _ _ => rfl)) (pv 1)))
      (pss_cons (ps_asg (pe_op kDiv (pe_ix (ixK K rfl) (pv 0) pe_int (fun _ _ => rfl)) (pv 1)) (pg_sub (pv 0) pe_int (kSet hr)))
      (pss_one (ps_ret (pv 2))))) pss_nil)
      (pss_cons (ps_asg (pe_op kAdd (pe_ix (ixK K rfl) (pv 0) pe_int (fun _ _ => rfl)) pe_int) (pg_sub (pv 0) pe_int (kSet hr)))
      (pss_cons (ps_set (i := 3) sc_Ldraw.nd rfl (Or.inl rfl) (pe_op kMod (pe_op kMul (pe_op kAdd (pe_op kAdd (pe_ix (ixK K rfl) (pv 0) pe_int (fun _ _ => rfl)) (pe_op kMul pe_int (pe_ix (ixK K rfl) (pv 0) pe_int (fun _ _ => rfl)))) pe_int) pe_int) pe_int))
      (pss_cons (ps_set (i := 3) sc_Ldraw.nd rfl (Or.inl rfl) (pe_op kMod (pe_op kMul (pv 3) (pe_op kAdd (pe_op kDiv (pv 3) pe_int) pe_int)) pe_int))
      (pss_one (ps_ret (pe_op kMod (pe_op kMod (pe_op kMul (pv 3) (pe_op kAdd (pe_op kDiv (pv 3) pe_int) pe_int)) pe_int) (pv 1)))))))), ?_⟩
    have hw2 : WellAt H w0 := ⟨a, b, c, hw⟩
    have hd := div_ok hn hb
    walk_at "go"
    refine v_ixL (SqL.of hw) (atI_nat (j := 0) rfl) ?_
    walk_at "go"
    by_cases h : 0 < a
    · rw [decide_eq_true h]
      walk_at "go"
      refine v_ixL (SqL.of hw) (atI_nat (j := 0) rfl) ?_
      walk_at "go"
      refine v_modI (by omega) ?_
      walk_at "go"
      refine v_ixL (SqL.of hw) (atI_nat (j := 0) rfl) ?_
      walk_at "go"
      refine v_divI hd ?_
      walk_at "go"
      refine v_set hw (j := 0) rfl ?_
      walk_at "go"
      exact k _ _ (fmod_lt hn).1 (fmod_lt hn).2 ⟨But.upd, _, _, _, upd_same⟩
    · rw [decide_eq_false h]
      walk_at "go"
      refine v_ixL (SqL.of hw) (atI_nat (j := 2) rfl) ?_
      walk_at "go"
      refine v_set hw (j := 2) rfl ?_
      walk_at "go"
      refine v_ixL (SqL.of upd_same) (atI_nat (j := 1) rfl) ?_
      walk_at "go"
      refine v_ixL (SqL.of upd_same) (atI_nat (j := 2) rfl) ?_
      walk_at "go"
      refine v_mulI (.inl (by decide)) ?_
      walk_at "go"
      refine v_mulI (.inr (by decide)) ?_
      walk_at "go"
      refine v_modI (by decide) ?_
      walk_at "go"
      refine v_divI ⟨by decide, by decide⟩ ?_
      walk_at "go"
      refine v_mulI (.inl (m31 _)) ?_
      walk_at "go"
      refine v_modI (by decide) ?_
      walk_at "go"
      refine v_divI ⟨by decide, by decide⟩ ?_
      walk_at "go"
      refine v_mulI (.inl (m31 _)) ?_
      walk_at "go"
      refine v_modI (by decide) ?_
      walk_at "go"
      refine v_modI (by omega) ?_
      walk_at "go"
      exact k _ _ (fmod_lt hn).1 (fmod_lt hn).2 ⟨But.upd, _, _, _, upd_same⟩

theorem use_draw {w : Addr} {n : Int} {H : Hp} {Q : VK} {E : XK} (hw : WellAt H w) (hn : 0 < n) (hb : n < 2 ^ 100) (k : ∀ r H', 0 ≤ r → r < n → Dr w H H' → Q (.int r) H') : sp_Ldraw K [.ref w, .int n] H Q E := ⟨w, n, rfl, hw, hn, hb, k⟩
def sp_Lname (K : PySem.W.Frag) : Sp := fun vs H Q _ => ∃ (w : Addr), vs = [.ref w] ∧ WellAt H w ∧ ∀ s H', Nm s → Dr w H H' → Q (.str s) H'
def nmA : List Str := ["in", "year", "head", "limit", "rule", "back", "right", "give", "hold", "move", "spend", "promise"]
def nmZ : List Str := ["lessen", "out", "none", "carried"]
theorem nmAZ : ∀ s ∈ nmA ++ nmZ, Nm s := by
  have h : (nmA ++ nmZ).all nmB = true := by decide +kernel
  exact fun s hs => nm_of (List.all_eq_true.mp h s hs)
theorem sgn (i : Nat) (h : i < 26) : atI (cl LETk) (i : Int) = some (97 + i) := by
  have h2 : ∀ k : _root_.Fin 26, (cl LETk)[k.val]? = some (97 + k.val) := by decide +kernel
  exact atI_nat (h2 ⟨i, h⟩)

theorem ok_Lname (T : Tx P w K mg base) : DefOk P w K mg base 2 ("_law_name", none) ["_law_well_here"] (sp_Lname K) := by
  refine mkOk T.f_Lname sc_Lname (fun vs H Q E h => ?_) (fun _ _ _ _ _ _ us hl => match us, hl with | [_], _ => rfl) (fun cdv A outer s H vs Q E hr h => ?_)
  · obtain ⟨w0, rfl, hw, k⟩ := h
    rfl
  · obtain ⟨w0, rfl, hw, k⟩ := h
    refine ⟨_, (pss_cons (ps_if (pt_cmpR (eqK K rfl hr) (kc (ok_Ldraw (K := K) T) T.g__law_draw (hr.mono (by decide)) pB (pa_cons (pv 0) (pa_cons pe_int pa_nil))) pe_int (nomark _)) (pss_cons (ps_set (i := 1) sc_Lname.nd rfl (Or.inl rfl) (pe_lst (pa_cons pe_str (pa_cons pe_str (pa_cons pe_str (pa_cons pe_str (pa_cons pe_str (pa_cons pe_str (pa_cons pe_str (pa_cons pe_str (pa_cons pe_str (pa_cons pe_str (pa_cons pe_str (pa_cons pe_str pa_nil))))))))))))))
      (pss_one (ps_ret (pe_ix (ixK K rfl) (pe_op kAdd (pv 1) (pe_lst (pa_cons pe_str (pa_cons pe_str (pa_cons pe_str (pa_cons pe_str pa_nil)))))) (kc (ok_Ldraw (K := K) T) T.g__law_draw (hr.mono (by decide)) pB (pa_cons (pv 0) (pa_cons pe_int pa_nil))) (fun _ _ => rfl))))) pss_nil)
      (pss_cons (ps_set (i := 2) sc_Lname.nd rfl (Or.inr rfl) pe_str)
      (pss_one (ps_ret (bmK K rfl PySem.F.plainAttrs_str PySem.F.slot_str_join PySem.F.type_str_join (joinK K rfl) pe_str (pa_cons (pe_lc (own := [("_law_k", 3)]) rfl sc_Lname.nd (pi_range1 rfl T.n_range (pa_cons (pe_op kAdd pe_int (kc (ok_Ldraw (K := K) T) T.g__law_draw (hr.mono (by decide)) pB (pa_cons (pv 0) (pa_cons pe_int pa_nil)))) pa_nil)) (blkOk_by (N := nm_Lname) (sc := defScope s_Lname) (by decide +kernel)) (fun _ _ _ _ _ => (pg_name (i := 3) sc_Lname.nd rfl (Or.inl rfl))) (fun _ _ _ _ _ => pts_nil) (fun _ _ _ _ _ => (pe_ix (ixK K rfl) (pv 2) (kc (ok_Ldraw (K := K) T) T.g__law_draw (hr.mono (by decide)) passL (pa_cons (pv 0) (pa_cons pe_int pa_nil))) (fun _ _ => rfl)))) pa_nil)))))), ?_⟩
    walk_at "go"
    refine use_draw hw (by decide) (by decide) fun r H1 hr0 hr1 d1 => ?_
    walk_at "go"
    by_cases h : r = 0
    · rw [decide_eq_true h]
      walk_at "go"
      refine ⟨by show 12 ≤ sizeLine; decide, fun p1 hp1 => ?_⟩
      walk_at "go"
      refine ⟨by show 4 ≤ sizeLine; decide, fun p2 hp2 => ?_⟩
      have d2 := (d1.new (o := .lst (nmA.map V.str)) hp1)
      have d3 := d2.new (o := .lst (nmZ.map V.str)) hp2
      have np : p1 ≠ p2 := fun e => by
        rw [← e, upd_same] at hp2
        cases hp2
      refine v_addL (xs := nmA.map V.str) (zs := nmZ.map V.str) (by rw [upd_ne np]; exact upd_same) upd_same (by show 16 ≤ sizeLine; decide) fun p3 hp3 => ?_
      have d4 := d3.new (o := .lst (nmA.map V.str ++ nmZ.map V.str)) hp3
      walk_at "go"
      refine use_draw d4.well (by decide) (by decide) fun r2 H2 hr2 hr3 d5 => ?_
      obtain ⟨v, h1, h2, _⟩ := atI_lt (xs := nmA.map V.str ++ nmZ.map V.str) hr2 (by show r2 < 16; exact hr3)
      rw [← List.map_append] at h2
      obtain ⟨z, hz, rfl⟩ := List.mem_map.mp h2
      have n3 : p3 ≠ w0 := Dr.ne d3.well hp3
      refine v_ixL (SqL.of (d5.but _ _ n3 upd_same)) h1 ?_
      exact k _ _ (nmAZ z hz) (d4.trans d5)
    · rw [decide_eq_false h]
      walk_at "go"
      refine ⟨rfl, ?_⟩
      walk_at "go"
      refine use_draw d1.well (by decide) (by decide) fun r2 H2 hr2 hr3 d2 => ?_
      walk_at "go"
      have d3 := d1.trans d2
      refine ⟨_, rfl, by omega, by omega, fun D hD => lc_it walk_range (fun i H' => Dr w0 H H' ∧ ∃ cs : List Nat, H' D = some (.lst ((cs.map one).map V.str)) ∧ cs.length = i ∧ ∀ c ∈ cs, 97 ≤ c ∧ c ≤ 122) ?_ (fun _ _ _ _ => trivial) ?_ ?_⟩
      · exact ⟨d3.new hD, [], upd_same, rfl, fun c hc => nomatch hc⟩
      · rintro i x H3 H3' hi ⟨d4, cs, hl, hn, hc⟩ ⟨rfl, rfl⟩
        have nD : D ≠ w0 := Dr.ne d3.well hD
        walk_at "go"
        refine use_draw (n := 26) d4.well (by decide) (by decide) fun r3 H4 hr4 hr5 d5 => ?_
        have hs := sgn r3.toNat (by omega)
        rw [Int.toNat_of_nonneg hr4] at hs
        refine v_ixS (z := LETk) (by decide +kernel) hs ?_
        refine ⟨_, d5.but _ _ nD hl, ?_, ?_⟩
        · rw [List.length_map, List.length_map]
          exact Nat.lt_of_le_of_lt (show cs.length ≤ 100 by omega) (by decide)
        · refine ⟨(d4.trans d5).mut hw (d3.free hw hD), cs ++ [97 + r3.toNat], ?_, by rw [List.length_append, hn]; rfl, ?_⟩
          · rw [List.map_append, List.map_append]
            exact upd_same
          · intro c h2
            rcases List.mem_append.mp h2 with h2 | h2
            · exact hc c h2
            · rw [List.mem_singleton.mp h2]
              omega
      · rintro H3 ⟨d4, cs, hl, hn, hc⟩
        have hcl : cl (Txt.join "" (cs.map one)) = cs := by rw [TL.join_eq]; exact join_empty
        walk_at "go"
        refine v_joinL (SqL.of hl) ?_ ?_
        · have e1 : ((cs.map one).map (·.length)).sum = cs.length := by
            rw [List.map_map]
            clear hcl hl hn hc
            induction cs with
            | nil => rfl
            | cons a r ih =>
              rw [List.map_cons, List.sum_cons, ih, List.length_cons]
              show 1 + r.length = _
              omega
          rw [e1, List.length_map]
          show cs.length + cs.length * 0 ≤ 16777216
          omega
        · refine k _ _ ⟨?_, ?_, ?_⟩ d4
          · rw [hcl]
            intro e
            rw [e] at hn
            simp at hn
            omega
          · rw [hcl]
            omega
          · rw [hcl]
            exact hc

theorem use_name {w : Addr} {H : Hp} {Q : VK} {E : XK} (hw : WellAt H w) (k : ∀ s H', Nm s → Dr w H H' → Q (.str s) H') : sp_Lname K [.ref w] H Q E := ⟨w, rfl, hw, k⟩
def sp_Lnames (K : PySem.W.Frag) : Sp := fun vs H Q _ => ∃ (w : Addr) (m : Int), vs = [.ref w, .int m] ∧ WellAt H w ∧ 0 ≤ m ∧ m ≤ 8 ∧ ∀ (l : Addr) (ns : List Str) (H' : Hp), Dr w H H' → H l = none → H' l = some (.lst (ns.map V.str)) → (ns.length : Int) = m → ns.Nodup → (∀ s ∈ ns, Nm s) → Q (.ref l) H'
theorem use_names {w : Addr} {m : Int} {H : Hp} {Q : VK} {E : XK} (hw : WellAt H w) (h0 : 0 ≤ m) (h8 : m ≤ 8) (k : ∀ (l : Addr) (ns : List Str) (H' : Hp), Dr w H H' → H l = none → H' l = some (.lst (ns.map V.str)) → (ns.length : Int) = m → ns.Nodup → (∀ s ∈ ns, Nm s) → Q (.ref l) H') : sp_Lnames K [.ref w, .int m] H Q E := ⟨w, m, rfl, hw, h0, h8, k⟩
/-- the names so far -/
structure NS (w l : Addr) (H H' : Hp) (ns : List Str) (n : Nat) : Prop where
  dr : Dr w H H'
  at_ : H' l = some (.lst (ns.map V.str))
  len : ns.length = n
  nd : ns.Nodup
  nm : ∀ s ∈ ns, Nm s
theorem NS.to {w l : Addr} {H H' H2 : Hp} {ns : List Str} {n : Nat} (a : NS w l H H' ns n) (d : Dr w H' H2) (n0 : l ≠ w) : NS w l H H2 ns n := ⟨a.dr.trans d, d.but _ _ n0 a.at_, a.len, a.nd, a.nm⟩
theorem NS.new {w l p : Addr} {H H' : Hp} {ns : List Str} {n : Nat} {o : HO} (a : NS w l H H' ns n) (h : H' p = none) : NS w l H (upd H' p o) ns n := ⟨a.dr.new h, by rw [upd_ne (ne_of_none a.at_ h)]; exact a.at_, a.len, a.nd, a.nm⟩
theorem NS.mut {w l p : Addr} {H H' : Hp} {ns : List Str} {n : Nat} {o : HO} (a : NS w l H H' ns n) (hw : WellAt H w) (h : H p = none) (hl : l ≠ p) : NS w l H (upd H' p o) ns n := ⟨a.dr.mut hw h, by rw [upd_ne hl]; exact a.at_, a.len, a.nd, a.nm⟩

theorem ok_Lnames (T : Tx P w K mg base) : DefOk P w K mg base 3 ("_law_names", none) ["_law_well_here", "_law_many"] (sp_Lnames K) := by
  refine mkOk T.f_Lnames sc_Lnames (fun vs H Q E h => ?_) (fun _ _ _ _ _ _ us hl => match us, hl with | [_, _], _ => rfl) (fun cdv A outer s H vs Q E hr h => ?_)
  · obtain ⟨w0, m, rfl, hw, hm0, hm8, k⟩ := h
    rfl
  · obtain ⟨w0, m, rfl, hw, hm0, hm8, k⟩ := h
    refine ⟨_, (pss_cons (ps_set (i := 2) sc_Lnames.nd rfl (Or.inr rfl) (pe_lst pa_nil))
      (pss_cons (ps_for (passes_of rfl) rfl (pi_range1 rfl T.n_range (pa_cons (pv 1) pa_nil)) (pg_name (i := 3) sc_Lnames.nd rfl (Or.inl rfl)) (pss_cons (ps_set (i := 4) sc_Lnames.nd rfl (Or.inr rfl) (kc (ok_Lname (K := K) T) T.g__law_name (hr.mono (by decide)) pB (pa_cons (pv 0) pa_nil)))
      (pss_cons (ps_if (PW.pt (pw_and (pt_cmpR (neK K rfl hr) (pv 2) (pe_lst pa_nil) (nomark _)) (pw_and1 (pt_cmpR (eqK K rfl hr) (kc (ok_Ldraw (K := K) T) T.g__law_draw (hr.mono (by decide)) pB (pa_cons (pv 0) (pa_cons pe_int pa_nil))) pe_int (nomark _))))) (pss_one (ps_set (i := 4) sc_Lnames.nd rfl (Or.inr rfl) (pe_ix (ixK K rfl) (pv 2) (kc (ok_Ldraw (K := K) T) T.g__law_draw (hr.mono (by decide)) pB (pa_cons (pv 0) (pa_cons (pe_callB (lenK K rfl) rfl T.n_len (by decide +kernel) (pa_cons (pv 2) pa_nil)) pa_nil))) (fun _ _ => rfl)))) pss_nil)
      (pss_cons (ps_set (i := 5) sc_Lnames.nd rfl (Or.inl rfl) (pe_op kAdd (pe_lst (pa_cons (pv 4) pa_nil)) (pe_lc (own := [("_law_sign", 6)]) rfl sc_Lnames.nd (pi_str pe_str) (blkOk_by (N := nm_Lnames) (sc := defScope s_Lnames) (by decide +kernel)) (fun _ _ _ _ _ => (pg_name (i := 6) sc_Lnames.nd rfl (Or.inl rfl))) (fun _ _ _ _ _ => pts_nil) (fun _ _ _ _ _ => (pe_op kAdd (pe_slice (slK K rfl) (pv 4) po_none (po_some pe_int)) (pv 6))))))
      (pss_one (ps_expr (bmK K rfl PySem.F.plainAttrs_list PySem.F.slot_list_append PySem.F.type_list_append mt_append (pv 2) (pa_cons (pe_ix (ixK K rfl) (pe_lc (own := [("_law_one", 7)]) rfl sc_Lnames.nd (psqK K rfl (pv 5)) (blkOk_by (N := nm_Lnames) (sc := defScope s_Lnames) (by decide +kernel)) (fun _ _ _ _ _ => (pg_name (i := 7) sc_Lnames.nd rfl (Or.inl rfl))) (fun _ _ _ _ _ => (pts_one (pt_cmpR (niK K rfl hr) (pv 7) (pv 2) (by rfl)))) (fun _ _ _ _ _ => (pv 7))) pe_int (fun _ _ => rfl)) pa_nil))))))))
      (pss_one (ps_ret (pv 2))))), ?_⟩
    walk_at "go"
    refine ⟨by show 0 ≤ sizeLine; decide, fun l hl => ?_⟩
    have nl : l ≠ w0 := Dr.ne hw hl
    walk_at "go"
    refine ⟨m, rfl, by omega, by omega, ?_⟩
    refine for_it walk_range (fun i σ H' => ∃ v3 v4 v5, σ = [some (.ref w0), some (.int m), some (.ref l), v3, v4, v5, none, none] ∧ ∃ ns, NS w0 l H H' ns i) ?_ (fun _ _ _ _ _ => trivial) ?_ ?_
    · exact ⟨none, none, none, rfl, [], (Dr.refl hw).new hl, upd_same, rfl, List.nodup_nil, fun s hs => nomatch hs⟩
    · rintro i x σ H1 H1' hi ⟨v3, v4, v5, rfl, ns, hN⟩ ⟨rfl, rfl⟩
      walk_at "go"
      refine use_name hN.dr.well fun s1 H2 n1 d1 => ?_
      have hN2 := hN.to d1 nl
      refine s_name ?_
      with_reducible refine s_cut (fun σ' H' => ∃ s1, Nm s1 ∧ σ' = [some (.ref w0), some (.int m), some (.ref l), some (.int (0 + i)), some (.str s1), v5, none, none] ∧ NS w0 l H H' ns i) ?_ ?_
      · rintro σ' H3 ⟨s1, n1, rfl, hN3⟩
        walk_at "go"
        refine ⟨by show 1 ≤ sizeLine; decide, fun p1 hp1 => ?_⟩
        have hN4 := hN3.new (o := .lst [.str s1]) hp1
        walk_at "go"
        refine fun D hD => lc_it (walk_str (z := LETk)) (fun j H' => NS w0 l H H' ns i ∧ H' p1 = some (.lst [.str s1]) ∧ H' D = some (.lst (((cands (cutS s1 none (some 7))).take j).map V.str))) ?_ (fun _ _ _ _ => trivial) ?_ ?_
        · refine ⟨hN4.new hD, ?_, ?_⟩
          · rw [upd_ne (ne_of_none upd_same hD)]
            exact upd_same
          · exact upd_same
        · rintro j x H4 H4' hj ⟨hN5, q1, q2⟩ ⟨rfl, c, hc, rfl⟩
          have hj26 : j < 26 := hj
          have ec : c = 97 + j := by
            have h2 := sgn j hj26
            have h3 : (cl LETk)[j]? = some c := by rw [← hc]; simp [cl, LETk]
            have h4 := atI_nat h3
            rw [h2] at h4
            injection h4 with h4
            exact h4.symm
          subst ec
          walk_at "go"
          refine .inr ⟨s1, rfl, sz (by have := n1.len; omega), ?_⟩
          walk_at "go"
          have n2 := nm_cut n1 (c := 97 + j) (by omega) (by omega)
          have h7 : (cutS s1 none (some 7)).length ≤ 7 := by
            rw [cl_len, cl_cut7, List.length_take]
            omega
          refine v_addS (sz (by show _ + 1 ≤ _; omega)) ?_
          refine ⟨_, q2, ?_, ?_⟩
          · rw [List.length_map, List.length_take]
            exact Nat.lt_of_le_of_lt (Nat.min_le_left _ _) (Nat.lt_of_lt_of_le hj26 (by decide))
          · have nD : H D = none := hN3.dr.free hw (by
              cases e : H3 D with
              | none => rfl
              | some u => rw [upd_ne (ne_of_none e hp1), e] at hD; cases hD)
            have nlD : l ≠ D := ne_of_none hN4.at_ hD
            have npD : p1 ≠ D := ne_of_none upd_same hD
            refine ⟨hN5.mut hw nD nlD, by rw [upd_ne npD]; exact q1, ?_⟩
            rw [upd_same]
            have e3 : (cands (cutS s1 none (some 7)))[j]? = some (cutS s1 none (some 7) ++ one (97 + j)) := by
              unfold cands
              rw [List.getElem?_map, List.getElem?_range hj26]
              rfl
            rw [List.take_add_one, e3, List.map_append]
            rfl
        · rintro H5 ⟨hN5, q1, q2⟩
          walk_at "go"
          have e26 : ((cands (cutS s1 none (some 7))).take LETk.cps.size) = cands (cutS s1 none (some 7)) := List.take_of_length_le (by show _ ≤ 26; simp [cands])
          rw [e26] at q2
          refine v_addL q1 q2 (sz (by simp [cands])) fun p2 hp2 => ?_
          have hN6 := hN5.new (o := .lst ([V.str s1] ++ (cands (cutS s1 none (some 7))).map V.str)) hp2
          walk_at "go"
          have nlp2 : l ≠ p2 := ne_of_none hN5.at_ hp2
          refine ⟨.inl ⟨rfl, _, SqL.of hN6.at_⟩, ?_⟩
          walk_at "go"
          refine s_isL ?_
          walk_at "go"
          refine ⟨p2, rfl, ⟨_, SqL.of upd_same⟩, fun D2 hD2 => ?_⟩
          have np2D : p2 ≠ D2 := ne_of_none upd_same hD2
          have nlD2 : l ≠ D2 := ne_of_none hN6.at_ hD2
          have nD2 : H D2 = none := hN6.dr.free hw hD2
          have eall : [V.str s1] ++ (cands (cutS s1 none (some 7))).map V.str = (s1 :: cands (cutS s1 none (some 7))).map V.str := rfl
          rw [eall] at hN6 ⊢
          refine lc_it (walk_list (xs := (s1 :: cands (cutS s1 none (some 7))).map V.str)) (fun j H' => NS w0 l H H' ns i ∧ H' p2 = some (.lst ((s1 :: cands (cutS s1 none (some 7))).map V.str)) ∧ H' D2 = some (.lst ((((s1 :: cands (cutS s1 none (some 7))).take j).filter fun z => !decide (z ∈ ns)).map V.str))) ?_ (fun _ _ _ h => SqL.of h.2.1) ?_ ?_
          · refine ⟨hN6.new hD2, ?_, upd_same⟩
            rw [upd_ne np2D]
            exact upd_same
          · rintro j x H6 H6' hj ⟨hN7, q3, q4⟩ ⟨rfl, hx⟩
            rw [List.getElem?_map] at hx
            obtain ⟨z, hz, rfl⟩ := Option.map_eq_some_iff.mp hx
            walk_at "go"
            refine v_niStr (SqL.of hN7.at_) ?_
            walk_at "go"
            have et : (s1 :: cands (cutS s1 none (some 7))).take (j + 1) = (s1 :: cands (cutS s1 none (some 7))).take j ++ [z] := by rw [List.take_add_one, hz]; rfl
            refine it2 (fun hin => ?_) (fun hin => ?_)
            · refine ⟨hN7, q3, ?_⟩
              rw [et, List.filter_append, q4]
              simp [hin]
            · walk_at "go"
              refine ⟨_, q4, ?_, hN7.mut hw nD2 nlD2, by rw [upd_ne np2D]; exact q3, ?_⟩
              · rw [List.length_map]
                refine Nat.lt_of_le_of_lt (List.length_filter_le _ _) (Nat.lt_of_le_of_lt (List.length_take_le _ _) (Nat.lt_of_le_of_lt ?_ (show 27 < sizeLine by decide)))
                simp only [List.length_map] at hj
                simp [cands] at hj ⊢
                omega
              · rw [upd_same, et, List.filter_append, List.map_append]
                simp [hin]
          · rintro H6 ⟨hN7, q3, q4⟩
            rw [List.take_of_length_le (by simp)] at q4
            walk_at "go"
            have hlen : ns.length < (cands (cutS s1 none (some 7))).length := by
              have := hN7.len
              simp [cands]
              omega
            obtain ⟨z, hz1, hz2⟩ := some_not_in (cands_nodup (cutS s1 none (some 7))) hlen
            have hzf : z ∈ (s1 :: cands (cutS s1 none (some 7))).filter fun z => !decide (z ∈ ns) := List.mem_filter.mpr ⟨List.mem_cons_of_mem _ hz1, by simp [hz2]⟩
            cases ef : (s1 :: cands (cutS s1 none (some 7))).filter fun z => !decide (z ∈ ns) with
            | nil => rw [ef] at hzf; cases hzf
            | cons y ys =>
              rw [ef] at q4
              have hy : y ∈ (s1 :: cands (cutS s1 none (some 7))).filter fun z => !decide (z ∈ ns) := by rw [ef]; exact List.mem_cons_self ..
              obtain ⟨hy1, hy2⟩ := List.mem_filter.mp hy
              have hyn : y ∉ ns := by simpa using hy2
              have ny : Nm y := by
                rcases List.mem_cons.mp hy1 with e | hy1
                · rw [e]; exact n1
                · unfold cands at hy1
                  obtain ⟨j, hj, rfl⟩ := List.mem_map.mp hy1
                  have := List.mem_range.mp hj
                  exact nm_cut n1 (by omega) (by omega)
              refine v_ixL (SqL.of q4) atI_zero ?_
              walk_at "go"
              refine v_app hN7.at_ ?_ ?_
              · rw [List.length_map, hN7.len]
                exact Nat.lt_of_le_of_lt (show i ≤ 8 by omega) (by decide)
              · refine ⟨_, _, _, rfl, ns ++ [y], hN7.dr.mut hw hl, ?_, ?_, ?_, ?_⟩
                · rw [upd_same, List.map_append]
                  rfl
                · rw [List.length_append, hN7.len]
                  rfl
                · refine List.nodup_append.mpr ⟨hN7.nd, by simp, ?_⟩
                  intro a ha b hb
                  rw [List.mem_singleton.mp hb]
                  exact fun e => hyn (e ▸ ha)
                · intro s hs
                  rcases List.mem_append.mp hs with hs | hs
                  · exact hN7.nm s hs
                  · rw [List.mem_singleton.mp hs]
                    exact ny
      · intro U hU
        walk_at "go"
        refine ⟨by show 0 ≤ sizeLine; decide, fun p1 hp1 => ?_⟩
        have hN3 := hN2.new (o := .lst []) hp1
        refine v_neL0 (SqL.of hN3.at_) (SqL.of upd_same) (sc_str hN3.nm) ?_
        walk_at "go"
        cases ns with
        | nil =>
          rw [show (([] : List Str).map V.str).isEmpty = true from rfl]
          walk_at "go"
          exact hU _ _ ⟨s1, n1, rfl, hN3⟩
        | cons n0 nr =>
          rw [show ((n0 :: nr).map V.str).isEmpty = false from rfl]
          walk_at "go"
          refine use_draw (n := 3) hN3.dr.well (by decide) (by decide) fun r H4 hr0 hr1 d4 => ?_
          have hN4 := hN3.to d4 nl
          walk_at "go"
          refine it2 (fun _ => ?_) (fun _ => ?_)
          · walk_at "go"
            refine v_lenL (SqL.of hN4.at_) ?_
            walk_at "go"
            rw [List.length_map]
            refine use_draw (n := ((n0 :: nr).length : Nat)) hN4.dr.well (by rw [List.length_cons]; omega) (by have := hN4.len; omega) fun r2 H5 hr2 hr3 d5 => ?_
            have hN5 := hN4.to d5 nl
            obtain ⟨v, h1, h2, _⟩ := atI_lt (xs := (n0 :: nr).map V.str) hr2 (by rw [List.length_map]; exact hr3)
            obtain ⟨z, hz, rfl⟩ := List.mem_map.mp h2
            refine v_ixL (SqL.of hN5.at_) h1 ?_
            walk_at "go"
            exact hU _ _ ⟨z, hN5.nm z hz, rfl, hN5⟩
          · walk_at "go"
            exact hU _ _ ⟨s1, n1, rfl, hN4⟩
    · rintro σ H1 ⟨v3, v4, v5, rfl, ns, hN⟩
      walk_at "go"
      exact k l ns H1 hN.dr hl hN.at_ (by rw [hN.len]; omega) hN.nd hN.nm
end
end Kn

set_option Elab.async false
set_option linter.all false
set_option maxRecDepth 100000
set_option maxHeartbeats 4000000
namespace Kn
open PySem PySem.Spec PyProof.Rows L2
local macro_rules | `(tactic| walk_at "go1") => `(tactic| first
  | with_reducible refine s_seq ?_
  | with_reducible refine s_var rfl ?_
  | with_reducible refine s_c ?_
  | with_reducible refine s_cons ?_
  | with_reducible refine s_nil ?_
  | with_reducible refine s_asg ?_
  | with_reducible refine s_name ?_
  | with_reducible refine s_op ?_
  | with_reducible refine s_call ?_
  | with_reducible refine s_cb ?_
  | with_reducible refine s_ret ?_
  | with_reducible refine s_drop ?_
  | with_reducible refine s_next ?_
  | with_reducible refine s_ifs ?_
  | with_reducible refine s_test ?_
  | with_reducible refine s_tB ?_
  | with_reducible refine s_blP ?_
  | with_reducible refine s_intP ?_
  | with_reducible refine iteT ?_
  | with_reducible refine iteF ?_
  | with_reducible refine ite_not ?_
  | with_reducible refine s_and ?_
  | with_reducible refine s_or ?_
  | with_reducible refine s_not ?_
  | with_reducible refine s_andV ?_
  | with_reducible refine s_orV ?_
  | with_reducible refine s_notV ?_
  | with_reducible refine s_chain ?_
  | with_reducible refine s_sub ?_
  | with_reducible refine s_bm ?_
  | with_reducible refine s_sl ?_
  | with_reducible refine s_part ?_
  | with_reducible refine s_nop ?_
  | with_reducible refine s_make ?_
  | with_reducible refine s_un ?_
  | with_reducible refine s_ifE ?_
  | with_reducible refine s_dget ?_
  | with_reducible refine s_dget2 ?_
  | with_reducible refine s_dnew ?_
  | with_reducible refine s_ivals ?_
  | with_reducible refine s_brk ?_
  | with_reducible refine s_gcons ?_
  | with_reducible refine s_gnil ?_
  | with_reducible refine s_meth ?_
  | with_reducible refine s_rev ?_
  | with_reducible refine s_lc ?_
  | with_reducible refine s_rng1 ?_
  | with_reducible refine s_ilst ?_
  | with_reducible refine s_istr ?_
  | with_reducible refine s_for ?_
  | with_reducible refine s_yes ?_
  | with_reducible refine s_wipe rfl ?_
  | with_reducible refine s_kget ?_
  | with_reducible refine s_strP ?_
  | with_reducible refine s_fldS ?_
  | with_reducible refine s_fld ?_
  | with_reducible refine s_tup ?_
  | with_reducible refine s_lst ?_
  | with_reducible refine v_addI ?_
  | with_reducible refine v_subI ?_
  | with_reducible refine v_lt ?_
  | with_reducible refine v_le ?_
  | with_reducible refine v_gt ?_
  | with_reducible refine v_ge ?_
  | with_reducible refine v_eqI ?_
  | with_reducible refine v_eqS ?_
  | with_reducible refine v_neS ?_
  | with_reducible refine v_neI ?_)
local macro_rules | `(tactic| walk_at "go") => `(tactic| repeat walk_at "go1")

section
variable {w : World} {P : Program} {mg : Str → Option Value} {K : PySem.W.Frag} {base : Heap}
def sp_Lheads (K : PySem.W.Frag) : Sp := fun vs H Q _ => ∃ w, vs = [.ref w] ∧ WellAt H w ∧ ∀ (l : Addr) (hs : List (Str × Str)) (va : List V) (H' : Hp), Dr w H H' → H l = none → H' l = some (.lst va) → DpAll K H' va (hs.map hD) → Heads hs → NmsOk hs → Q (.ref l) H'
theorem use_lheads {K : PySem.W.Frag} {w : Addr} {H : Hp} {Q : VK} {E : XK} (hw : WellAt H w) (k : ∀ (l : Addr) (hs : List (Str × Str)) (va : List V) (H' : Hp), Dr w H H' → H l = none → H' l = some (.lst va) → DpAll K H' va (hs.map hD) → Heads hs → NmsOk hs → Q (.ref l) H') : sp_Lheads K [.ref w] H Q E := ⟨w, rfl, hw, k⟩
/-- a place behind a draw is new to what was before -/
theorem Dr.nw {w p : Addr} {H H' : Hp} (a : Dr w H H') (h0 : WellAt H w) (h : H' p = none) : H p = none := a.free h0 h
theorem rng0 {x : V} {i : Nat} (h : x = .int (0 + (i : Int))) : x = .int (i : Int) := by rw [h, Int.zero_add]
theorem hs_ext {hs : List (Str × Str)} {ns : List Str} (h : hs.map (·.1) = ns) : hs.length = ns.length := by rw [← h, List.length_map]

theorem ok_Lheads (T : Tx P w K mg base) : DefOk P w K mg base 4 ("_law_heads", none) ["_law_well_here"] (sp_Lheads K) := by
  refine mkOk T.f_Lheads sc_Lheads (fun vs H Q E h => ?_) (fun _ _ _ _ _ _ us hl => match us, hl with | [_], _ => rfl) (fun cdv A outer s H vs Q E hr h => ?_)
  · obtain ⟨w0, rfl, hw, k⟩ := h
    rfl
  · obtain ⟨w0, rfl, hw, k⟩ := h
    refine ⟨_, (pss_cons (ps_set (i := 1) sc_Lheads.nd rfl (Or.inl rfl) (kc (ok_Lnames (K := K) T) T.g__law_names (hr.mono (by decide)) pB (pa_cons (pv 0) (pa_cons (pe_ix (ixK K rfl) (pe_lst (pa_cons (pe_op kAdd pe_int (kc (ok_Ldraw (K := K) T) T.g__law_draw (hr.mono (by decide)) pB (pa_cons (pv 0) (pa_cons pe_int pa_nil)))) (pa_cons pe_int pa_nil))) (pe_op kDiv (kc (ok_Ldraw (K := K) T) T.g__law_draw (hr.mono (by decide)) pB (pa_cons (pv 0) (pa_cons pe_int pa_nil))) pe_int) (fun _ _ => rfl)) pa_nil))))
      (pss_cons (ps_set (i := 2) sc_Lheads.nd rfl (Or.inl rfl) (pe_lst pa_nil))
      (pss_cons (ps_for (passes_of rfl) rfl (pi_range1 rfl T.n_range (pa_cons (pe_callB (lenK K rfl) rfl T.n_len (by decide +kernel) (pa_cons (pv 1) pa_nil)) pa_nil)) (pg_name (i := 3) sc_Lheads.nd rfl (Or.inl rfl)) (pss_one (ps_expr (bmK K rfl PySem.F.plainAttrs_list PySem.F.slot_list_append PySem.F.type_list_append mt_append (pv 2) (pa_cons (pe_tup (pa_cons (pe_ix (ixK K rfl) (pv 1) (pv 3) (fun _ _ => rfl)) (pa_cons (pe_ix (ixK K rfl) (pe_op kAdd (pe_lst (pa_cons pe_str pa_nil)) (pe_slice (slK K rfl) (pv 1) po_none (po_some (pv 3)))) (kc (ok_Ldraw (K := K) T) T.g__law_draw (hr.mono (by decide)) pB (pa_cons (pv 0) (pa_cons (pe_op kAdd (pv 3) pe_int) pa_nil))) (fun _ _ => rfl)) pa_nil))) pa_nil)))))
      (pss_one (ps_ret (pv 2)))))), ?_⟩
    walk_at "go"
    refine use_draw (n := 8) hw (by decide) (by decide) fun r H1 hr0 hr1 d1 => ?_
    walk_at "go"
    refine ⟨by show 2 ≤ sizeLine; decide, fun p1 hp1 => ?_⟩
    have d2 := d1.new (o := .lst [.int (1 + r), .int 8]) hp1
    walk_at "go"
    refine use_draw (n := 4) d2.well (by decide) (by decide) fun r2 H2 hs0 hs1 d3 => ?_
    walk_at "go"
    refine v_divI ⟨by decide, by decide⟩ ?_
    have n1 : p1 ≠ w0 := Dr.ne d1.well hp1
    have hp1b : H2 p1 = some (.lst [.int (1 + r), .int 8]) := d3.but _ _ n1 upd_same
    have hm : ∃ m : Int, atI [V.int (1 + r), V.int 8] (r2 / 3) = some (.int m) ∧ 1 ≤ m ∧ m ≤ 8 := by
      rcases atI_or (x := V.int (1 + r)) (y := V.int 8) (k := 3) hs0 (by omega) (by decide) with h | h
      · exact ⟨_, h, by omega, by omega⟩
      · exact ⟨_, h, by omega, by omega⟩
    obtain ⟨m, hm, hm1, hm8⟩ := hm
    refine v_ixL (SqL.of hp1b) hm ?_
    walk_at "go"
    refine use_names d3.well (by omega) hm8 fun nl ns H3 d4 hnl hnl2 hnlen hnd hnm => ?_
    have d5 := (d2.trans d3).trans d4
    walk_at "go"
    refine ⟨by show 0 ≤ sizeLine; decide, fun l hl => ?_⟩
    have d6 := d5.new (o := .lst []) hl
    have nlw : nl ≠ w0 := Dr.ne d3.well hnl
    have lw : l ≠ w0 := Dr.ne d4.well hl
    have nll : nl ≠ l := ne_of_none hnl2 hl
    have hl0 : H l = none := d5.free hw hl
    walk_at "go"
    refine v_lenL (SqL.of (by rw [upd_ne nll]; exact hnl2)) ?_
    walk_at "go"
    rw [List.length_map]
    have len8 : ns.length ≤ 8 := by omega
    refine ⟨_, rfl, by omega, by omega, ?_⟩
    rw [Int.toNat_natCast]
    refine for_it walk_range (fun i σ H' => (∃ v3, σ = [some (.ref w0), some (.ref nl), some (.ref l), v3]) ∧ Dr w0 H H' ∧ H' nl = some (.lst (ns.map V.str)) ∧ ∃ va hs, H' l = some (.lst va) ∧ DpAll K H' va (hs.map hD) ∧ hs.map (·.1) = ns.take i ∧ HO_ [] hs) ?_ (fun _ _ _ _ _ => trivial) ?_ ?_
    · exact ⟨⟨none, rfl⟩, d6, by rw [upd_ne nll]; exact hnl2, [], [], upd_same, .nil, rfl, trivial⟩
    · rintro i x σ H4 H4' hi ⟨⟨v3, rfl⟩, d7, q1, va, hs, q2, hda, hmp, ho⟩ ⟨rfl, hx⟩
      obtain ⟨n, hn⟩ : ∃ n, ns[i]? = some n := ⟨_, List.getElem?_eq_getElem hi⟩
      have hn2 : (ns.map V.str)[i]? = some (.str n) := by rw [List.getElem?_map, hn]; rfl
      obtain rfl := rng0 hx
      walk_at "go"
      refine ⟨.inl ⟨rfl, _, SqL.of q2⟩, ?_⟩
      walk_at "go"
      refine v_ixL (SqL.of q1) (atI_nat hn2) ?_
      walk_at "go"
      refine ⟨by show 1 ≤ sizeLine; decide, fun p2 hp2 => ?_⟩
      have s1 := Same.new (o := .lst [.str ("" : Str)]) hp2
      walk_at "go"
      refine .inl ⟨nl, _, rfl, SqL.of (s1.at_ q1), fun p3 hp3 => ?_⟩
      rw [cut_take]
      have s2 := s1.trans (Same.new (o := .lst ((ns.map V.str).take i)) hp3)
      refine v_addL (xs := [.str ("" : Str)]) (zs := (ns.map V.str).take i) ((Same.new hp3).at_ upd_same) upd_same ?_ fun p4 hp4 => ?_
      · exact sz (by rw [List.length_take, List.length_map]; show 1 + _ ≤ _; omega)
      have s3 := s2.trans (Same.new (o := .lst ([.str ("" : Str)] ++ (ns.map V.str).take i)) hp4)
      have en : [V.str ("" : Str)] ++ (ns.map V.str).take i = (("" : Str) :: ns.take i).map V.str := by rw [← List.map_take]; rfl
      have d8 := d7.new (o := .lst [.str ("" : Str)]) hp2
      have d9 := (d8.new (o := .lst ((ns.map V.str).take i)) hp3).new (o := .lst ([.str ("" : Str)] ++ (ns.map V.str).take i)) hp4
      have n4 : p4 ≠ w0 := Dr.ne (d8.new hp3).well hp4
      rw [en] at s3 d9 ⊢
      walk_at "go"
      refine use_draw (n := (i : Int) + 1) d9.well (by omega) (by omega) fun r3 H5 hr0 hr1 d10 => ?_
      have hq4 : H5 p4 = some (.lst ((("" : Str) :: ns.take i).map V.str)) := d10.but _ _ n4 upd_same
      have hlen : (ns.take i).length = i := by rw [List.length_take]; omega
      obtain ⟨v, h1, h2, _⟩ := atI_lt (xs := (("" : Str) :: ns.take i).map V.str) hr0 (by rw [List.length_map, List.length_cons, hlen]; omega)
      obtain ⟨a, ha, rfl⟩ := List.mem_map.mp h2
      refine v_ixL (SqL.of hq4) h1 ?_
      walk_at "go"
      refine ⟨by show 2 ≤ sizeLine; decide, fun t ht => ?_⟩
      have dA := d9.trans d10
      have sT : SameT H4' (upd H5 t (.tup [.str n, .str a])) := (s3.sameT.trans (d10.sameT d9.well)).trans (Same.new ht).sameT
      have q1b : (upd H5 t (.tup [.str n, .str a])) nl = some (.lst (ns.map V.str)) := (Same.new ht).at_ (d10.but _ _ nlw (s3.at_ q1))
      have q2b : (upd H5 t (.tup [.str n, .str a])) l = some (.lst va) := (Same.new ht).at_ (d10.but _ _ lw (s3.at_ q2))
      walk_at "go"
      refine v_app q2b ?_ ?_
      · rw [DpAll.len hda, List.length_map, hs_ext hmp, hlen]
        exact sz_lt (by omega)
      · have nlt : l ≠ t := ne_of_none (d10.but _ _ lw (s3.at_ q2)) ht
        refine ⟨⟨_, rfl⟩, (dA.new ht).mut hw hl0, by rw [upd_ne nll]; exact q1b, _, hs ++ [(n, a)], upd_same, ?_, ?_, ?_⟩
        · have sU := sT.trans (SameT.upd (ys := va ++ [.ref t]) q2b)
          rw [List.map_append]
          refine DpAll.snoc (DpAll.sameT sU hda (map_noL fun _ => hD_noL)) (.tup (SqT.of ?_) (.cons (.str _) (.cons (.str _) .nil)))
          rw [upd_ne nlt.symm]
          exact upd_same
        · rw [List.map_append, hmp, List.take_add_one, hn]
          rfl
        · have hnn : n ∉ ns.take i := fun hm => by
            obtain ⟨j, hj, e⟩ := List.getElem_of_mem hm
            rw [List.getElem_take] at e
            have hj2 : j < i := by rw [hlen] at hj; exact hj
            have e2 : ns[i] = n := by rw [List.getElem?_eq_getElem hi] at hn; injection hn
            exact (List.pairwise_iff_getElem.mp hnd) j i (by omega) hi hj2 (e.trans e2.symm)
          refine ho_snoc ho (hnm n (List.mem_of_getElem? hn)).name ?_ ?_
          · rw [List.nil_append, hmp]; exact hnn
          · rw [List.nil_append, hmp]
            rcases List.mem_cons.mp ha with rfl | ha
            · exact .inl rfl
            · exact .inr ha
    · rintro σ H4 ⟨⟨v3, rfl⟩, d7, q1, va, hs, q2, hda, hmp, ho⟩
      rw [List.take_length] at hmp
      walk_at "go"
      refine k l hs va H4 d7 hl0 q2 hda ⟨?_, ?_, ho⟩ ?_
      · rintro rfl
        have : ns.length = 0 := by rw [← hmp]; rfl
        omega
      · rw [hs_ext hmp]; exact len8
      · intro s hs
        rw [hmp] at hs
        exact ⟨(hnm s hs).ok, (hnm s hs).len⟩
end
end Kn

set_option Elab.async false
set_option linter.all false
set_option maxRecDepth 100000
set_option maxHeartbeats 4000000
namespace Kn
open PySem PySem.Spec PyProof.Rows L2
local macro_rules | `(tactic| walk_at "go1") => `(tactic| first
  | with_reducible refine s_seq ?_
  | with_reducible refine s_var rfl ?_
  | with_reducible refine s_c ?_
  | with_reducible refine s_cons ?_
  | with_reducible refine s_nil ?_
  | with_reducible refine s_asg ?_
  | with_reducible refine s_name ?_
  | with_reducible refine s_op ?_
  | with_reducible refine s_call ?_
  | with_reducible refine s_cb ?_
  | with_reducible refine s_ret ?_
  | with_reducible refine s_drop ?_
  | with_reducible refine s_next ?_
  | with_reducible refine s_ifs ?_
  | with_reducible refine s_test ?_
  | with_reducible refine s_tB ?_
  | with_reducible refine s_blP ?_
  | with_reducible refine s_intP ?_
  | with_reducible refine iteT ?_
  | with_reducible refine iteF ?_
  | with_reducible refine ite_not ?_
  | with_reducible refine s_and ?_
  | with_reducible refine s_or ?_
  | with_reducible refine s_not ?_
  | with_reducible refine s_andV ?_
  | with_reducible refine s_orV ?_
  | with_reducible refine s_notV ?_
  | with_reducible refine s_chain ?_
  | with_reducible refine s_sub ?_
  | with_reducible refine s_bm ?_
  | with_reducible refine s_sl ?_
  | with_reducible refine s_part ?_
  | with_reducible refine s_nop ?_
  | with_reducible refine s_make ?_
  | with_reducible refine s_un ?_
  | with_reducible refine s_ifE ?_
  | with_reducible refine s_dget ?_
  | with_reducible refine s_dget2 ?_
  | with_reducible refine s_dnew ?_
  | with_reducible refine s_ivals ?_
  | with_reducible refine s_brk ?_
  | with_reducible refine s_gcons ?_
  | with_reducible refine s_gnil ?_
  | with_reducible refine s_meth ?_
  | with_reducible refine s_rev ?_
  | with_reducible refine s_lc ?_
  | with_reducible refine s_rng1 ?_
  | with_reducible refine s_ilst ?_
  | with_reducible refine s_istr ?_
  | with_reducible refine s_for ?_
  | with_reducible refine s_yes ?_
  | with_reducible refine s_wipe rfl ?_
  | with_reducible refine s_kget ?_
  | with_reducible refine s_strP ?_
  | with_reducible refine s_fldS ?_
  | with_reducible refine s_fld ?_
  | with_reducible refine s_tup ?_
  | with_reducible refine s_lst ?_
  | with_reducible refine v_addI ?_
  | with_reducible refine v_subI ?_
  | with_reducible refine v_lt ?_
  | with_reducible refine v_le ?_
  | with_reducible refine v_gt ?_
  | with_reducible refine v_ge ?_
  | with_reducible refine v_eqI ?_
  | with_reducible refine v_eqS ?_
  | with_reducible refine v_neS ?_
  | with_reducible refine v_neI ?_)
local macro_rules | `(tactic| walk_at "go") => `(tactic| repeat walk_at "go1")

section
variable {w : World} {P : Program} {mg : Str → Option Value} {K : PySem.W.Frag} {base : Heap}
/-- one item of a list of ints, by a drawn place -/
theorem pick_int {xs : List Int} {r : Int} (h0 : 0 ≤ r) (h1 : r < xs.length) : ∃ m, m ∈ xs ∧ atI (xs.map V.int) r = some (.int m) := by
  obtain ⟨v, h2, h3, _⟩ := atI_lt (xs := xs.map V.int) h0 (by rw [List.length_map]; exact h1)
  obtain ⟨m, hm, rfl⟩ := List.mem_map.mp h3
  exact ⟨m, hm, h2⟩
theorem pick_head {K : PySem.W.Frag} {H : Hp} {va : List V} {hs : List (Str × Str)} {r : Int} (h : DpAll K H va (hs.map hD)) (h0 : 0 ≤ r) (h1 : r < hs.length) : ∃ p t, p ∈ hs ∧ atI va r = some (.ref t) ∧ SqT K H t [.str p.1, .str p.2] := by
  obtain ⟨v, h2, _, h3⟩ := atI_lt (xs := va) h0 (by rw [DpAll.len h, List.length_map]; exact h1)
  obtain ⟨p, t, h4, rfl, h5⟩ := heads_at h h3
  exact ⟨p, t, List.mem_of_getElem? h4, h2, h5⟩
def sp_Llimits (K : PySem.W.Frag) : Sp := fun vs H Q _ => ∃ (w hl : Addr) (days : Int) (va : List V) (hs : List (Str × Str)), vs = [.ref w, .ref hl, .int days] ∧ WellAt H w ∧ H hl = some (.lst va) ∧ hl ≠ w ∧ DpAll K H va (hs.map hD) ∧ Heads hs ∧ NmsOk hs ∧ 1 ≤ days ∧ days ≤ 30 ∧
  ∀ (l : Addr) (xs : List LimT) (vb : List V) (H' : Hp), Dr w H H' → H l = none → H' l = some (.lst vb) → DpAll K H' vb (xs.map lD) → xs.length ≤ 6 → (∀ x ∈ xs, LimR (hs.map (·.1)) days x) → Q (.ref l) H'
structure LS (K : PySem.W.Frag) (w l : Addr) (H H' : Hp) (ns : List Str) (days : Int) (R : List Str → Int → LimT → Prop) (n : Nat) : Prop where
  dr : Dr w H H'
  ex : ∃ (xs : List LimT) (vb : List V), H' l = some (.lst vb) ∧ DpAll K H' vb (xs.map lD) ∧ xs.length = n ∧ ∀ x ∈ xs, R ns days x
theorem LS.to {K : PySem.W.Frag} {w l : Addr} {H H' H2 : Hp} {ns : List Str} {days : Int} {R : List Str → Int → LimT → Prop} {n : Nat} (a : LS K w l H H' ns days R n) (d : Dr w H' H2) (n0 : l ≠ w) : LS K w l H H2 ns days R n := by
  obtain ⟨dr, xs, vb, h1, h2, h3, h4⟩ := a
  exact ⟨dr.trans d, xs, vb, d.but _ _ n0 h1, DpAll.sameT (d.sameT dr.well) h2 (map_noL fun _ => lD_noL), h3, h4⟩
theorem LS.new {K : PySem.W.Frag} {w l p : Addr} {H H' : Hp} {ns : List Str} {days : Int} {R : List Str → Int → LimT → Prop} {n : Nat} {o : HO} (a : LS K w l H H' ns days R n) (h : H' p = none) : LS K w l H (L2.upd H' p o) ns days R n := by
  obtain ⟨dr, xs, vb, h1, h2, h3, h4⟩ := a
  exact ⟨dr.new h, xs, vb, by rw [upd_ne (ne_of_none h1 h)]; exact h1, DpAll.same (Same.new h) h2, h3, h4⟩

theorem ok_Llimits (T : Tx P w K mg base) : DefOk P w K mg base 2 ("_law_limits", none) ["_law_well_here", "_law_heads_here", "_law_days"] (sp_Llimits K) := by
  refine mkOk T.f_Llimits sc_Llimits (fun vs H Q E h => ?_) (fun _ _ _ _ _ _ us hl => match us, hl with | [_, _, _], _ => rfl) (fun cdv A outer s H vs Q E hr h => ?_)
  · obtain ⟨w0, hl, days, va, hs, rfl, hw, hhl, hlw, hda, hh, hnk, hd1, hd2, k⟩ := h
    rfl
  · obtain ⟨w0, hl, days, va, hs, rfl, hw, hhl, hlw, hda, hh, hnk, hd1, hd2, k⟩ := h
    refine ⟨_, (pss_cons (ps_set (i := 3) sc_Llimits.nd rfl (Or.inl rfl) (pe_lst pa_nil))
      (pss_cons (ps_for (passes_of rfl) rfl (pi_range1 rfl T.n_range (pa_cons (pe_ix (ixK K rfl) (pe_lst (pa_cons (kc (ok_Ldraw (K := K) T) T.g__law_draw (hr.mono (by decide)) pB (pa_cons (pv 0) (pa_cons pe_int pa_nil))) (pa_cons pe_int pa_nil))) (pe_op kDiv (kc (ok_Ldraw (K := K) T) T.g__law_draw (hr.mono (by decide)) pB (pa_cons (pv 0) (pa_cons pe_int pa_nil))) pe_int) (fun _ _ => rfl)) pa_nil)) (pg_name (i := 4) sc_Llimits.nd rfl (Or.inl rfl)) (pss_cons (ps_set (i := 5) sc_Llimits.nd rfl (Or.inl rfl) (pe_op kAdd pe_int (kc (ok_Ldraw (K := K) T) T.g__law_draw (hr.mono (by decide)) pB (pa_cons (pv 0) (pa_cons (pv 2) pa_nil)))))
      (pss_cons (ps_set (i := 6) sc_Llimits.nd rfl (Or.inl rfl) (pe_op kAdd (pv 5) (kc (ok_Ldraw (K := K) T) T.g__law_draw (hr.mono (by decide)) pB (pa_cons (pv 0) (pa_cons (pe_op kAdd (pe_op kSub (pv 2) (pv 5)) pe_int) pa_nil)))))
      (pss_cons (ps_set (i := 7) sc_Llimits.nd rfl (Or.inl rfl) (pe_ix (ixK K rfl) (pe_lst (pa_cons pe_int (pa_cons (kc (ok_Ldraw (K := K) T) T.g__law_draw (hr.mono (by decide)) pB (pa_cons (pv 0) (pa_cons pe_int pa_nil))) (pa_cons (kc (ok_Ldraw (K := K) T) T.g__law_draw (hr.mono (by decide)) pB (pa_cons (pv 0) (pa_cons (pe_op kAdd (pe_op kPow pe_int pe_int) pe_int) pa_nil))) (pa_cons (pe_op kPow pe_int pe_int) pa_nil))))) (kc (ok_Ldraw (K := K) T) T.g__law_draw (hr.mono (by decide)) pB (pa_cons (pv 0) (pa_cons pe_int pa_nil))) (fun _ _ => rfl)))
      (pss_one (ps_expr (bmK K rfl PySem.F.plainAttrs_list PySem.F.slot_list_append PySem.F.type_list_append mt_append (pv 3) (pa_cons (pe_tup (pa_cons (pe_ix (ixK K rfl) (pe_ix (ixK K rfl) (pv 1) (kc (ok_Ldraw (K := K) T) T.g__law_draw (hr.mono (by decide)) pB (pa_cons (pv 0) (pa_cons (pe_callB (lenK K rfl) rfl T.n_len (by decide +kernel) (pa_cons (pv 1) pa_nil)) pa_nil))) (fun _ _ => rfl)) pe_int (fun _ _ => rfl)) (pa_cons (pv 5) (pa_cons (pv 6) (pa_cons (pv 7) pa_nil))))) pa_nil))))))))
      (pss_cons (ps_if (PW.pt (pw_and (pt_cmpR (neK K rfl hr) (pv 3) (pe_lst pa_nil) (nomark _)) (pw_and (pt_cmpR kLt (pe_callB (lenK K rfl) rfl T.n_len (by decide +kernel) (pa_cons (pv 3) pa_nil)) pe_int (nomark _)) (pw_and1 (pt_cmpR (eqK K rfl hr) (kc (ok_Ldraw (K := K) T) T.g__law_draw (hr.mono (by decide)) pB (pa_cons (pv 0) (pa_cons pe_int pa_nil))) pe_int (nomark _)))))) (pss_one (ps_expr (bmK K rfl PySem.F.plainAttrs_list PySem.F.slot_list_append PySem.F.type_list_append mt_append (pv 3) (pa_cons (pe_ix (ixK K rfl) (pv 3) pe_int (fun _ _ => rfl)) pa_nil)))) pss_nil)
      (pss_one (ps_ret (pv 3)))))), ?_⟩
    have hh8 := hh.le
    have hh0 : 0 < hs.length := List.length_pos_iff.mpr hh.ne
    walk_at "go"
    refine ⟨by show 0 ≤ sizeLine; decide, fun l hl0 => ?_⟩
    have lw : l ≠ w0 := Dr.ne hw hl0
    have lhl : hl ≠ l := ne_of_none hhl hl0
    walk_at "go"
    have d0 := (Dr.refl hw).new (o := .lst []) hl0
    refine use_draw (n := 7) d0.well (by decide) (by decide) fun r H1 hr0 hr1 d1 => ?_
    walk_at "go"
    refine ⟨by show 2 ≤ sizeLine; decide, fun p1 hp1 => ?_⟩
    have d2 := (d0.trans d1).new (o := .lst [.int r, .int 6]) hp1
    have n1 : p1 ≠ w0 := Dr.ne (d0.trans d1).well hp1
    have ql2 : (upd H1 p1 (.lst [.int r, .int 6])) l = some (.lst []) := (Same.new hp1).at_ (d1.but _ _ lw upd_same)
    walk_at "go"
    refine use_draw (n := 4) d2.well (by decide) (by decide) fun r2 H2 hs0 hs1 d3 => ?_
    walk_at "go"
    refine v_divI ⟨by decide, by decide⟩ ?_
    have hm : ∃ m : Int, atI [V.int r, V.int 6] (r2 / 3) = some (.int m) ∧ 0 ≤ m ∧ m ≤ 6 := by
      rcases atI_or (x := V.int r) (y := V.int 6) (k := 3) hs0 (by omega) (by decide) with h | h
      · exact ⟨_, h, by omega, by omega⟩
      · exact ⟨_, h, by omega, by omega⟩
    obtain ⟨m, hm, hm0, hm6⟩ := hm
    refine v_ixL (SqL.of (d3.but _ _ n1 upd_same)) hm ?_
    walk_at "go"
    refine ⟨m, rfl, by omega, by omega, ?_⟩
    have d4 := d2.trans d3
    refine for_it walk_range (fun i σ H' => (∃ v4 v5 v6 v7, σ = [some (.ref w0), some (.ref hl), some (.int days), some (.ref l), v4, v5, v6, v7]) ∧ LS K w0 l H H' (hs.map (·.1)) days LimR i) ?_ (fun _ _ _ _ _ => trivial) ?_ ?_
    · exact ⟨⟨none, none, none, none, rfl⟩, d4, [], [], d3.but _ _ lw ql2, .nil, rfl, fun x hx => nomatch hx⟩
    · rintro i x σ H4 H4' hi ⟨⟨v4, v5, v6, v7, rfl⟩, hL⟩ ⟨rfl, hx⟩
      obtain rfl := rng0 hx
      walk_at "go"
      refine use_draw (n := days) hL.dr.well (by omega) (by omega) fun r3 H5 hr30 hr31 d5 => ?_
      have hL5 := hL.to d5 lw
      walk_at "go"
      refine use_draw (n := days - (1 + r3) + 1) hL5.dr.well (by omega) (by omega) fun r4 H6 hr40 hr41 d6 => ?_
      have hL6 := hL5.to d6 lw
      walk_at "go"
      refine use_draw (n := 100) hL6.dr.well (by decide) (by decide) fun r5 H7 hr50 hr51 d7 => ?_
      have hL7 := hL6.to d7 lw
      walk_at "go"
      refine v_powI ⟨by decide, by decide, by decide⟩ ?_
      walk_at "go"
      refine use_draw (n := (10 : Int) ^ (15 : Int).toNat + 1) hL7.dr.well (by decide) (by decide) fun r6 H8 hr60 hr61 d8 => ?_
      have hL8 := hL7.to d8 lw
      walk_at "go"
      refine v_powI ⟨by decide, by decide, by decide⟩ ?_
      walk_at "go"
      refine ⟨by show 4 ≤ sizeLine; decide, fun p2 hp2 => ?_⟩
      have n2 : p2 ≠ w0 := Dr.ne hL8.dr.well hp2
      have hL9 := hL8.new (o := .lst [.int 0, .int r5, .int r6, .int ((10 : Int) ^ (15 : Int).toNat)]) hp2
      walk_at "go"
      refine use_draw (n := 4) hL9.dr.well (by decide) (by decide) fun r7 H9 hr70 hr71 d9 => ?_
      have hLA := hL9.to d9 lw
      have e15 : (10 : Int) ^ (15 : Int).toNat = GRT := by decide
      rw [e15] at hr61
      obtain ⟨mo, hmo, hat⟩ := pick_int (xs := [0, r5, r6, (10 : Int) ^ (15 : Int).toNat]) hr70 hr71
      have hmo2 : 0 ≤ mo ∧ mo ≤ GRT := by
        have hg : GRT = 1000000000000000 := rfl
        rw [e15, hg] at hmo
        rw [hg] at hr61 ⊢
        rcases (show mo = 0 ∨ mo = r5 ∨ mo = r6 ∨ mo = 1000000000000000 by simpa using hmo) with rfl | rfl | rfl | rfl <;> omega
      refine v_ixL (SqL.of (d9.but _ _ n2 upd_same)) hat ?_
      walk_at "go"
      obtain ⟨dr, xs, vb, h1, h2, h3, h4⟩ := id hLA
      refine ⟨.inl ⟨rfl, _, SqL.of h1⟩, ?_⟩
      walk_at "go"
      have qh : H9 hl = some (.lst va) := dr.but _ _ hlw hhl
      refine v_lenL (SqL.of qh) ?_
      walk_at "go"
      rw [DpAll.len hda, List.length_map]
      refine use_draw (n := (hs.length : Int)) dr.well (by omega) (by omega) fun r8 HA hr80 hr81 dA => ?_
      have hLB := hLA.to dA lw
      have hdB : DpAll K HA va (hs.map hD) := DpAll.sameT (hLB.dr.sameT hw) hda (map_noL fun _ => hD_noL)
      obtain ⟨pr, t, hp1', hp2', hp3'⟩ := pick_head hdB hr80 hr81
      refine v_ixL (SqL.of (dA.but _ _ hlw qh)) hp2' ?_
      walk_at "go"
      refine v_ixT hp3' (atI_nat (j := 0) rfl) ?_
      walk_at "go"
      refine ⟨by show 4 ≤ sizeLine; decide, fun tt htt => ?_⟩
      walk_at "go"
      obtain ⟨drB, xs, vb, h1, h2, h3, h4⟩ := id hLB
      have sN := Same.new (o := .tup [.str pr.1, .int (1 + r3), .int (1 + r3 + r4), .int mo]) htt
      have sz1 : ∀ {vb : List V} {n : Nat}, vb.length = n → n < 100 → vb.length < sizeLine := fun h h2 => sz_lt (by omega)
      have hi6 : i < 6 := by omega
      refine v_app (sN.at_ h1) (sz1 (n := xs.length) (by rw [DpAll.len h2, List.length_map]) (by omega)) ?_
      have ltt : l ≠ tt := ne_of_none h1 htt
      refine ⟨⟨_, _, _, _, rfl⟩, (drB.new htt).mut hw hl0, xs ++ [(pr.1, 1 + r3, 1 + r3 + r4, mo)], _, upd_same, ?_, by rw [List.length_append, h3, List.length_singleton], ?_⟩
      · have sU := sN.sameT.trans (SameT.upd (ys := vb ++ [.ref tt]) (sN.at_ h1))
        rw [List.map_append]
        refine DpAll.snoc (DpAll.sameT sU h2 (map_noL fun _ => lD_noL)) (.tup (SqT.of ?_) (.cons (.str _) (.cons (.int _) (.cons (.int _) (.cons (.int _) .nil)))))
        rw [upd_ne ltt.symm]
        exact upd_same
      · intro x hx
        rcases List.mem_append.mp hx with hx | hx
        · exact h4 x hx
        · rw [List.mem_singleton.mp hx]
          exact ⟨List.mem_map.mpr ⟨pr, hp1', rfl⟩, ⟨by show 1 ≤ 1 + r3; omega, by show 1 + r3 ≤ days; omega⟩, ⟨by show 1 + r3 ≤ 1 + r3 + r4; omega, by show 1 + r3 + r4 ≤ days; omega⟩, hmo2⟩
    · rintro σ H4 ⟨⟨v4, v5, v6, v7, rfl⟩, hL⟩
      obtain ⟨dr, xs, vb, h1, h2, h3, h4⟩ := id hL
      have hx6 : xs.length ≤ 6 := by omega
      dsimp only
      with_reducible refine s_cut (fun σ' H' => (∃ v4 v5 v6 v7, σ' = [some (.ref w0), some (.ref hl), some (.int days), some (.ref l), v4, v5, v6, v7]) ∧ ∃ n, n ≤ 6 ∧ LS K w0 l H H' (hs.map (·.1)) days LimR n) ?_ ?_
      · rintro σ' H' ⟨⟨v4, v5, v6, v7, rfl⟩, n, hn, dr, xs, vb, h1, h2, h3, h4⟩
        walk_at "go"
        exact k l xs vb H' dr hl0 h1 h2 (by omega) h4
      · intro U hU
        walk_at "go"
        refine ⟨by show 0 ≤ sizeLine; decide, fun p3 hp3 => ?_⟩
        have hL5 := hL.new (o := .lst []) hp3
        obtain ⟨dr5, xs, vb, h1, h2, h3, h4⟩ := id hL5
        have hx6 : xs.length ≤ 6 := by omega
        have fx : Fit (.list (xs.map lD)) := (fit_map (n := 2) fun x hx => lD_fit (hnk _ (h4 x hx).1)).fit (by omega)
        refine v_neF (.lst (SqL.of h1) h2) (.lst (SqL.of upd_same) .nil) fx fit_nil ?_
        rw [eqv_nil]
        have same : U _ _ := hU _ _ ⟨⟨v4, v5, v6, v7, rfl⟩, xs.length, hx6, dr5, xs, vb, h1, h2, rfl, h4⟩
        walk_at "go"
        cases xs with
        | nil =>
          rw [show (List.map lD ([] : List LimT)).isEmpty = true from rfl]
          walk_at "go"
          exact same
        | cons x0 xr =>
          rw [show (List.map lD (x0 :: xr)).isEmpty = false from rfl]
          walk_at "go"
          refine v_lenL (SqL.of h1) ?_
          walk_at "go"
          rw [DpAll.len h2, List.length_map]
          refine it2 (fun hlt => ?_) (fun _ => ?_)
          · walk_at "go"
            refine use_draw (n := 4) dr5.well (by decide) (by decide) fun r9 H6 hr90 hr91 d6 => ?_
            have hL6 := (show LS K w0 l H _ (hs.map (·.1)) days LimR (x0 :: xr).length from ⟨dr5, x0 :: xr, vb, h1, h2, rfl, h4⟩).to d6 lw
            walk_at "go"
            have q1 := d6.but _ _ lw h1
            have q2 : DpAll K H6 vb ((x0 :: xr).map lD) := DpAll.sameT (d6.sameT dr5.well) h2 (map_noL fun _ => lD_noL)
            refine it2 (fun _ => ?_) (fun _ => ?_)
            · walk_at "go"
              refine ⟨.inl ⟨rfl, _, SqL.of q1⟩, ?_⟩
              walk_at "go"
              obtain ⟨y, yr, rfl, q3, q4⟩ := dpall_cons q2
              refine v_ixL (SqL.of q1) (atI_nat (j := 0) rfl) ?_
              walk_at "go"
              have q5 := DpAll.len q4
              rw [List.length_map] at q5
              have hlt' : xr.length + 1 < 6 := by rw [List.length_cons] at hlt; omega
              refine v_app q1 (by rw [List.length_cons, q5]; exact sz_lt (by omega)) ?_
              have sU := SameT.upd (ys := (y :: yr) ++ [y]) q1
              refine hU _ _ ⟨⟨v4, v5, v6, v7, rfl⟩, (x0 :: xr).length + 1, by rw [List.length_cons]; omega, hL6.dr.mut hw hl0, (x0 :: xr) ++ [x0], _, upd_same, ?_, by rw [List.length_append]; rfl, ?_⟩
              · rw [List.map_append]
                exact DpAll.snoc (DpAll.sameT sU q2 (map_noL fun _ => lD_noL)) (Dp.sameT sU q3 lD_noL)
              · intro x hx
                rcases List.mem_append.mp hx with hx | hx
                · exact h4 x hx
                · rw [List.mem_singleton.mp hx]
                  exact h4 _ (List.mem_cons_self ..)
            · walk_at "go"
              exact hU _ _ ⟨⟨v4, v5, v6, v7, rfl⟩, _, hx6, hL6⟩
          · walk_at "go"
            exact same
end
end Kn

set_option Elab.async false
set_option linter.all false
set_option maxRecDepth 100000
set_option maxHeartbeats 4000000
namespace Kn
open PySem PySem.Spec PyProof.Rows L2
local macro_rules | `(tactic| walk_at "go1") => `(tactic| first
  | with_reducible refine s_seq ?_
  | with_reducible refine s_var rfl ?_
  | with_reducible refine s_c ?_
  | with_reducible refine s_cons ?_
  | with_reducible refine s_nil ?_
  | with_reducible refine s_asg ?_
  | with_reducible refine s_name ?_
  | with_reducible refine s_op ?_
  | with_reducible refine s_call ?_
  | with_reducible refine s_cb ?_
  | with_reducible refine s_ret ?_
  | with_reducible refine s_drop ?_
  | with_reducible refine s_next ?_
  | with_reducible refine s_ifs ?_
  | with_reducible refine s_test ?_
  | with_reducible refine s_tB ?_
  | with_reducible refine s_blP ?_
  | with_reducible refine s_intP ?_
  | with_reducible refine iteT ?_
  | with_reducible refine iteF ?_
  | with_reducible refine ite_not ?_
  | with_reducible refine s_and ?_
  | with_reducible refine s_or ?_
  | with_reducible refine s_not ?_
  | with_reducible refine s_andV ?_
  | with_reducible refine s_orV ?_
  | with_reducible refine s_notV ?_
  | with_reducible refine s_chain ?_
  | with_reducible refine s_sub ?_
  | with_reducible refine s_bm ?_
  | with_reducible refine s_sl ?_
  | with_reducible refine s_part ?_
  | with_reducible refine s_nop ?_
  | with_reducible refine s_make ?_
  | with_reducible refine s_un ?_
  | with_reducible refine s_ifE ?_
  | with_reducible refine s_dget ?_
  | with_reducible refine s_dget2 ?_
  | with_reducible refine s_dnew ?_
  | with_reducible refine s_ivals ?_
  | with_reducible refine s_brk ?_
  | with_reducible refine s_gcons ?_
  | with_reducible refine s_gnil ?_
  | with_reducible refine s_meth ?_
  | with_reducible refine s_rev ?_
  | with_reducible refine s_lc ?_
  | with_reducible refine s_rng1 ?_
  | with_reducible refine s_ilst ?_
  | with_reducible refine s_istr ?_
  | with_reducible refine s_for ?_
  | with_reducible refine s_yes ?_
  | with_reducible refine s_wipe rfl ?_
  | with_reducible refine s_kget ?_
  | with_reducible refine s_strP ?_
  | with_reducible refine s_fldS ?_
  | with_reducible refine s_fld ?_
  | with_reducible refine s_tup ?_
  | with_reducible refine s_lst ?_
  | with_reducible refine v_addI ?_
  | with_reducible refine v_subI ?_
  | with_reducible refine v_lt ?_
  | with_reducible refine v_le ?_
  | with_reducible refine v_gt ?_
  | with_reducible refine v_ge ?_
  | with_reducible refine v_eqI ?_
  | with_reducible refine v_eqS ?_
  | with_reducible refine v_neS ?_
  | with_reducible refine v_neI ?_)
local macro_rules | `(tactic| walk_at "go") => `(tactic| repeat walk_at "go1")

section
variable {w : World} {P : Program} {mg : Str → Option Value} {K : PySem.W.Frag} {base : Heap}
def sp_Lrules (K : PySem.W.Frag) : Sp := fun vs H Q _ => ∃ (w hl : Addr) (days : Int) (va : List V) (hs : List (Str × Str)), vs = [.ref w, .ref hl, .int days] ∧ WellAt H w ∧ H hl = some (.lst va) ∧ hl ≠ w ∧ DpAll K H va (hs.map hD) ∧ Heads hs ∧ NmsOk hs ∧ 1 ≤ days ∧ days ≤ 30 ∧
  ∀ (l : Addr) (xs : List LimT) (vb : List V) (H' : Hp), Dr w H H' → H l = none → H' l = some (.lst vb) → DpAll K H' vb (xs.map lD) → xs.length ≤ 4 → (∀ x ∈ xs, RuleR (hs.map (·.1)) days x) → (∀ m, ∀ s ∈ sumsOf (xs.take m), s.2.1 ≤ s.2.2) → Q (.ref l) H'
/-- the sums so far -/
def SumR (n : Nat) (s : Int × Int) : Prop := 0 ≤ s.1 ∧ s.1 ≤ s.2 ∧ 1 ≤ s.2 ∧ s.2 ≤ 1000 ^ n
structure RS (K : PySem.W.Frag) (w l S : Addr) (H H' : Hp) (ns : List Str) (days : Int) (n : Nat) : Prop where
  dr : Dr w H H'
  ex : ∃ (xs : List LimT) (vb : List V) (kvs : List (Key × V)), H' l = some (.lst vb) ∧ DpAll K (hid S H') vb (xs.map lD) ∧ xs.length = n ∧ (∀ x ∈ xs, RuleR ns days x) ∧ H' S = some (.dK kvs) ∧ Paired (SV (RTup (hid S H'))) (sumsOf xs) kvs ∧ (∀ s ∈ sumsOf xs, SumR n s.2) ∧ kvs.length ≤ n ∧ ∀ m, ∀ s ∈ sumsOf (xs.take m), s.2.1 ≤ s.2.2
theorem RTup.sameT {H H' : Hp} (s : SameT H H') {a : Int × Int} {v : V} (h : RTup H a v) : RTup H' a v := by
  obtain ⟨p, h1, h2⟩ := h
  exact ⟨p, h1, s _ _ h2 (fun _ e => by cases e)⟩
theorem RS.to {K : PySem.W.Frag} {w l S : Addr} {H H' H2 : Hp} {ns : List Str} {days : Int} {n : Nat} (a : RS K w l S H H' ns days n) (d : Dr w H' H2) (n0 : l ≠ w) (n1 : S ≠ w) : RS K w l S H H2 ns days n := by
  obtain ⟨dr, xs, vb, kvs, h1, h2, h3, h4, h5, h6, h7, h8⟩ := a
  have sT := hid_sameT (l := S) (d.sameT dr.well)
  exact ⟨dr.trans d, xs, vb, kvs, d.but _ _ n0 h1, DpAll.sameT sT h2 (map_noL fun _ => lD_noL), h3, h4, d.but _ _ n1 h5, sv_imp (fun _ _ z => z.sameT sT) h6, h7, h8⟩
theorem RS.new {K : PySem.W.Frag} {w l S p : Addr} {H H' : Hp} {ns : List Str} {days : Int} {n : Nat} {o : HO} (a : RS K w l S H H' ns days n) (h : H' p = none) : RS K w l S H (L2.upd H' p o) ns days n := by
  obtain ⟨dr, xs, vb, kvs, h1, h2, h3, h4, h5, h6, h7, h8⟩ := a
  have sT : Same (hid S H') (hid S (L2.upd H' p o)) := hid_same (Same.new h).but
  exact ⟨dr.new h, xs, vb, kvs, by rw [upd_ne (ne_of_none h1 h)]; exact h1, DpAll.same sT h2, h3, h4, by rw [upd_ne (ne_of_none h5 h)]; exact h5, sv_imp (fun _ _ z => z.same sT) h6, h7, h8⟩
theorem clamp {t b w : Int} (hb : 1 ≤ b) (ht : 0 ≤ t) (htb : t ≤ b) (hw : 1 ≤ w) : 0 ≤ (b - t) * w / b ∧ (b - t) * w / b ≤ w ∧ t * w + (b - t) * w / b * b ≤ b * w := by
  have h0 : 0 ≤ (b - t) * w := Int.mul_nonneg (by omega) (by omega)
  have h1 : (b - t) * w / b * b ≤ (b - t) * w := Int.ediv_mul_le _ (by omega)
  have h2 : (b - t) * w = b * w - t * w := Int.sub_mul _ _ _
  have h3 : 0 ≤ t * w := Int.mul_nonneg ht (by omega)
  refine ⟨Int.ediv_nonneg h0 (by omega), ?_, by omega⟩
  refine Int.le_of_mul_le_mul_right (a := b) ?_ (by omega)
  rw [Int.mul_comm w b]
  omega
theorem sumR_next {n : Nat} {t b w p : Int} (h : SumR n (t, b)) (hw : 1 ≤ w) (hw2 : w ≤ 1000) (hp : 0 ≤ p) (hc : t * w + p * b ≤ b * w) : SumR (n + 1) (t * w + p * b, b * w) := by
  obtain ⟨h1, h2, h3, h4⟩ := h
  dsimp only at h1 h2 h3 h4
  refine ⟨Int.add_nonneg (Int.mul_nonneg h1 (by omega)) (Int.mul_nonneg hp (by omega)), hc, ?_, ?_⟩
  · show 1 ≤ b * w
    have := Int.mul_le_mul h3 hw (by omega) (by omega)
    omega
  · show b * w ≤ 1000 ^ (n + 1)
    rw [Int.pow_succ]
    exact Int.mul_le_mul h4 hw2 (by omega) (Int.pow_nonneg (by omega))
theorem sumR_mono {n : Nat} {s : Int × Int} (h : SumR n s) : SumR (n + 1) s := by
  refine ⟨h.1, h.2.1, h.2.2.1, Int.le_trans h.2.2.2 ?_⟩
  rw [Int.pow_succ]
  have : (0 : Int) ≤ 1000 ^ n := Int.pow_nonneg (by omega)
  omega
theorem sum_div {n : Nat} {s : Int × Int} {i : Int} (h : SumR n s) (hn : n ≤ 4) : CDivW i s.2 := by
  refine wide_div (b := 100) (by have := h.2.2.1; omega) ?_ (by decide) (by decide)
  have h1 : s.2 ≤ 1000 ^ n := h.2.2.2
  have h2 : (1000 : Int) ^ n ≤ 1000000000000 := by
    rcases (show n = 0 ∨ n = 1 ∨ n = 2 ∨ n = 3 ∨ n = 4 by omega) with rfl | rfl | rfl | rfl | rfl <;> decide
  have h3 := h.2.2.1
  omega

theorem ok_Lrules (T : Tx P w K mg base) : DefOk P w K mg base 2 ("_law_rules", none) ["_law_well_here", "_law_heads_here", "_law_days"] (sp_Lrules K) := by
  refine mkOk T.f_Lrules sc_Lrules (fun vs H Q E h => ?_) (fun _ _ _ _ _ _ us hl => match us, hl with | [_, _, _], _ => rfl) (fun cdv A outer s H vs Q E hr h => ?_)
  · obtain ⟨w0, hl, days, va, hs, rfl, hw, hhl, hlw, hda, hh, hnk, hd1, hd2, k⟩ := h
    rfl
  · obtain ⟨w0, hl, days, va, hs, rfl, hw, hhl, hlw, hda, hh, hnk, hd1, hd2, k⟩ := h
    refine ⟨_, (pss_cons (ps_set (i := 3) sc_Lrules.nd rfl (Or.inl rfl) (pe_lst pa_nil))
      (pss_cons (ps_set (i := 4) sc_Lrules.nd rfl (Or.inl rfl) pe_dnewK)
      (pss_cons (ps_for (passes_of rfl) rfl (pi_range1 rfl T.n_range (pa_cons (pe_ix (ixK K rfl) (pe_lst (pa_cons (kc (ok_Ldraw (K := K) T) T.g__law_draw (hr.mono (by decide)) pB (pa_cons (pv 0) (pa_cons pe_int pa_nil))) (pa_cons pe_int pa_nil))) (pe_op kDiv (kc (ok_Ldraw (K := K) T) T.g__law_draw (hr.mono (by decide)) pB (pa_cons (pv 0) (pa_cons pe_int pa_nil))) pe_int) (fun _ _ => rfl)) pa_nil)) (pg_name (i := 5) sc_Lrules.nd rfl (Or.inl rfl)) (pss_cons (ps_set (i := 6) sc_Lrules.nd rfl (Or.inl rfl) (pe_ix (ixK K rfl) (pe_ix (ixK K rfl) (pv 1) (kc (ok_Ldraw (K := K) T) T.g__law_draw (hr.mono (by decide)) pB (pa_cons (pv 0) (pa_cons (pe_callB (lenK K rfl) rfl T.n_len (by decide +kernel) (pa_cons (pv 1) pa_nil)) pa_nil))) (fun _ _ => rfl)) pe_int (fun _ _ => rfl)))
      (pss_cons (ps_set (i := 7) sc_Lrules.nd rfl (Or.inl rfl) (pe_op kAdd pe_int (kc (ok_Ldraw (K := K) T) T.g__law_draw (hr.mono (by decide)) pB (pa_cons (pv 0) (pa_cons (pe_ix (ixK K rfl) (pe_lst (pa_cons pe_int (pa_cons pe_int pa_nil))) (kc (ok_Ldraw (K := K) T) T.g__law_draw (hr.mono (by decide)) pB (pa_cons (pv 0) (pa_cons pe_int pa_nil))) (fun _ _ => rfl)) pa_nil)))))
      (pss_cons (ps_set (i := 8) sc_Lrules.nd rfl (Or.inl rfl) (pe_ix (ixK K rfl) (pe_lst (pa_cons (kc (ok_Ldraw (K := K) T) T.g__law_draw (hr.mono (by decide)) pB (pa_cons (pv 0) (pa_cons (pe_op kAdd (pv 7) pe_int) pa_nil))) (pa_cons (pv 7) pa_nil))) (pe_op kDiv (kc (ok_Ldraw (K := K) T) T.g__law_draw (hr.mono (by decide)) pB (pa_cons (pv 0) (pa_cons pe_int pa_nil))) pe_int) (fun _ _ => rfl)))
      (pss_cons (ps_asg (pe_dget2 (hu_of hr) (pv 4) (pv 6) (pe_tup (pa_cons pe_int (pa_cons pe_int pa_nil))) (by exact ⟨rfl, rfl, rfl, rfl⟩)) (gtK (n := 2) K rfl rfl (pgs_cons (pg_name (i := 9) sc_Lrules.nd rfl (Or.inl rfl)) (pgs_cons (pg_name (i := 10) sc_Lrules.nd rfl (Or.inl rfl)) pgs_nil))))
      (pss_cons (ps_if (pt_cmpR kGt (pe_op kAdd (pe_op kMul (pv 9) (pv 7)) (pe_op kMul (pv 8) (pv 10))) (pe_op kMul (pv 10) (pv 7)) (nomark _)) (pss_one (ps_set (i := 8) sc_Lrules.nd rfl (Or.inl rfl) (pe_op kDiv (pe_op kMul (pe_op kSub (pv 10) (pv 9)) (pv 7)) (pv 10)))) pss_nil)
      (pss_cons (ps_asg (pe_tup (pa_cons (pe_op kAdd (pe_op kMul (pv 9) (pv 7)) (pe_op kMul (pv 8) (pv 10))) (pa_cons (pe_op kMul (pv 10) (pv 7)) pa_nil))) (pg_sub (pv 4) (pv 6) (kSet hr)))
      (pss_one (ps_expr (bmK K rfl PySem.F.plainAttrs_list PySem.F.slot_list_append PySem.F.type_list_append mt_append (pv 3) (pa_cons (pe_tup (pa_cons (pv 6) (pa_cons (pv 8) (pa_cons (pv 7) (pa_cons (pe_op kAdd pe_int (kc (ok_Ldraw (K := K) T) T.g__law_draw (hr.mono (by decide)) pB (pa_cons (pv 0) (pa_cons (pv 2) pa_nil)))) pa_nil))))) pa_nil)))))))))))
      (pss_one (ps_ret (pv 3)))))), ?_⟩
    have hh8 := hh.le
    have hh0 : 0 < hs.length := List.length_pos_iff.mpr hh.ne
    walk_at "go"
    refine ⟨by show 0 ≤ sizeLine; decide, fun l hl0 => ?_⟩
    have lw : l ≠ w0 := Dr.ne hw hl0
    have d0 := (Dr.refl hw).new (o := .lst []) hl0
    walk_at "go"
    refine fun S hS0 => ?_
    have hS : H S = none := free_of (Same.new hl0) hS0
    have Sw : S ≠ w0 := Dr.ne hw hS
    have lS : l ≠ S := ne_of_none upd_same hS0
    have d0 := d0.new (o := .dK []) hS0
    walk_at "go"
    refine use_draw (n := 5) d0.well (by decide) (by decide) fun r H1 hr0 hr1 d1 => ?_
    walk_at "go"
    refine ⟨by show 2 ≤ sizeLine; decide, fun p1 hp1 => ?_⟩
    have R1 : RS K w0 l S H H1 (hs.map (·.1)) days 0 := ⟨d0.trans d1, [], [], [], d1.but _ _ lw (by rw [upd_ne lS]; exact upd_same), .nil, rfl, (fun x hx => nomatch hx), d1.but _ _ Sw upd_same, .nil, (fun x hx => nomatch hx), Nat.le_refl _, fun m x hx => by rw [List.take_nil] at hx; exact nomatch hx⟩
    have R2 := R1.new (o := .lst [.int r, .int 4]) hp1
    have n1 : p1 ≠ w0 := Dr.ne R1.dr.well hp1
    walk_at "go"
    refine use_draw (n := 4) R2.dr.well (by decide) (by decide) fun r2 H2 hs0 hs1 d3 => ?_
    walk_at "go"
    refine v_divI ⟨by decide, by decide⟩ ?_
    have hm : ∃ m : Int, atI [V.int r, V.int 4] (r2 / 3) = some (.int m) ∧ 0 ≤ m ∧ m ≤ 4 := by
      rcases atI_or (x := V.int r) (y := V.int 4) (k := 3) hs0 (by omega) (by decide) with h | h
      · exact ⟨_, h, by omega, by omega⟩
      · exact ⟨_, h, by omega, by omega⟩
    obtain ⟨m, hm, hm0, hm4⟩ := hm
    refine v_ixL (SqL.of (d3.but _ _ n1 upd_same)) hm ?_
    walk_at "go"
    refine ⟨m, rfl, by omega, by omega, ?_⟩
    have R3 := R2.to d3 lw Sw
    refine for_it walk_range (fun i σ H' => (∃ v5 v6 v7 v8 v9 v10, σ = [some (.ref w0), some (.ref hl), some (.int days), some (.ref l), some (.ref S), v5, v6, v7, v8, v9, v10]) ∧ RS K w0 l S H H' (hs.map (·.1)) days i) ?_ (fun _ _ _ _ _ => trivial) ?_ ?_
    · exact ⟨⟨none, none, none, none, none, none, rfl⟩, R3⟩
    · rintro i x σ H4 H4' hi ⟨⟨v5, v6, v7, v8, v9, v10, rfl⟩, hR⟩ ⟨rfl, hx⟩
      obtain rfl := rng0 hx
      have hi4 : i < 4 := by omega
      walk_at "go"
      have qh : H4' hl = some (.lst va) := hR.dr.but _ _ hlw hhl
      refine v_lenL (SqL.of qh) ?_
      walk_at "go"
      rw [DpAll.len hda, List.length_map]
      refine use_draw (n := (hs.length : Int)) hR.dr.well (by omega) (by omega) fun r8 HA hr80 hr81 dA => ?_
      have hRA := hR.to dA lw Sw
      have hdA : DpAll K HA va (hs.map hD) := DpAll.sameT (hRA.dr.sameT hw) hda (map_noL fun _ => hD_noL)
      obtain ⟨pr, t, hp1', hp2', hp3'⟩ := pick_head hdA hr80 hr81
      refine v_ixL (SqL.of (dA.but _ _ hlw qh)) hp2' ?_
      walk_at "go"
      refine v_ixT hp3' (atI_nat (j := 0) rfl) ?_
      walk_at "go"
      refine ⟨by show 2 ≤ sizeLine; decide, fun p2 hp2 => ?_⟩
      have n2 : p2 ≠ w0 := Dr.ne hRA.dr.well hp2
      have hRB := hRA.new (o := .lst [.int 10, .int 1000]) hp2
      walk_at "go"
      refine use_draw (n := 2) hRB.dr.well (by decide) (by decide) fun r3 H5 hr30 hr31 d5 => ?_
      have hR5 := hRB.to d5 lw Sw
      have hb : ∃ b : Int, atI [V.int 10, V.int 1000] r3 = some (.int b) ∧ 10 ≤ b ∧ b ≤ 1000 := by
        rcases atI_two (x := V.int 10) (y := V.int 1000) hr30 (by omega) with h | h
        · exact ⟨_, h, by omega, by omega⟩
        · exact ⟨_, h, by omega, by omega⟩
      obtain ⟨b, hb, hb1, hb2⟩ := hb
      refine v_ixL (SqL.of (d5.but _ _ n2 upd_same)) hb ?_
      walk_at "go"
      refine use_draw (n := b) hR5.dr.well (by omega) (by omega) fun r4 H6 hr40 hr41 d6 => ?_
      have hR6 := hR5.to d6 lw Sw
      walk_at "go"
      refine use_draw (n := 1 + r4 + 1) hR6.dr.well (by omega) (by omega) fun r5 H7 hr50 hr51 d7 => ?_
      have hR7 := hR6.to d7 lw Sw
      walk_at "go"
      refine ⟨by show 2 ≤ sizeLine; decide, fun p3 hp3 => ?_⟩
      have n3 : p3 ≠ w0 := Dr.ne hR7.dr.well hp3
      have hR8 := hR7.new (o := .lst [.int r5, .int (1 + r4)]) hp3
      walk_at "go"
      refine use_draw (n := 5) hR8.dr.well (by decide) (by decide) fun r6 H8 hr60 hr61 d8 => ?_
      have hR9 := hR8.to d8 lw Sw
      walk_at "go"
      refine v_divI ⟨by decide, by decide⟩ ?_
      have hpt : ∃ q : Int, atI [V.int r5, V.int (1 + r4)] (r6 / 4) = some (.int q) ∧ 0 ≤ q ∧ q ≤ 1 + r4 := by
        rcases atI_or (x := V.int r5) (y := V.int (1 + r4)) (k := 4) hr60 (by omega) (by decide) with h | h
        · exact ⟨_, h, by omega, by omega⟩
        · exact ⟨_, h, by omega, by omega⟩
      obtain ⟨pt, hpt, hpt0, hpt1⟩ := hpt
      refine v_ixL (SqL.of (d8.but _ _ n3 upd_same)) hpt ?_
      walk_at "go"
      obtain ⟨dr9, xs, vb, kvs, h1, h2, h3, h4, h5, h6, h7, h8, h9⟩ := id hR9
      have hw1 : 1 ≤ 1 + r4 := by omega
      have hw2 : 1 + r4 ≤ 1000 := by omega
      generalize 1 + r4 = wh at *
      refine ⟨S, rfl, .inl ⟨kvs, .inl h5⟩, ?_⟩
      walk_at "go"
      refine ⟨by show 2 ≤ sizeLine; decide, fun p4 hp4 => ?_⟩
      have sN := Same.new (o := .tup [.int 0, .int 1]) hp4
      have hRC := hR9.new (o := .tup [.int 0, .int 1]) hp4
      have sg : ∃ (t b : Int) (vv : V), ((getS (sumsOf xs) pr.1).getD (0, 1)) = (t, b) ∧ ((valV kvs (.inr pr.1)).getD (.ref p4)) = vv ∧ RTup (upd H8 p4 (.tup [.int 0, .int 1])) (t, b) vv ∧ SumR i (t, b) := by
        rcases sv_get (k := pr.1) h6 with ⟨⟨t, b⟩, v, g1, g2, g3⟩ | ⟨g1, g2⟩
        · refine ⟨t, b, v, by rw [g1]; rfl, by rw [g2]; rfl, (g3.same hid_le).same sN, ?_⟩
          obtain ⟨x, hx, e⟩ := getS_mem g1
          rw [← e]
          exact h7 x hx
        · exact ⟨0, 1, .ref p4, by rw [g1]; rfl, by rw [g2]; rfl, ⟨p4, rfl, upd_same⟩, by show (0:Int) ≤ 0; omega, by show (0:Int) ≤ 1; omega, by show (1:Int) ≤ 1; omega, Int.pow_pos (by omega)⟩
      obtain ⟨tt, bb, vv, g1, g2, ⟨pq, rfl, g3⟩, g4⟩ := sg
      refine ⟨valV kvs (.inr pr.1), DGet.k (k := .inr pr.1) (sN.at_ h5), ?_⟩
      rw [g2]
      refine s_gsT (SqT.of g3) rfl ?_
      refine s_gcons ?_
      refine s_name ?_
      refine s_gcons ?_
      refine s_name ?_
      refine s_gnil ?_
      dsimp only
      generalize hHC : upd H8 p4 (.tup [.int 0, .int 1]) = HC at *
      with_reducible refine s_cut (fun σ' H' => HC = H' ∧ ∃ q, 0 ≤ q ∧ q ≤ wh ∧ tt * wh + q * bb ≤ bb * wh ∧ σ' = [some (.ref w0), some (.ref hl), some (.int days), some (.ref l), some (.ref S), some (.int (i : Nat)), some (.str pr.1), some (.int wh), some (.int q), some (.int tt), some (.int bb)]) ?_ ?_
      · rintro σ' H' ⟨rfl, q, hq0, hq1, hqc, rfl⟩
        walk_at "go"
        refine v_mulI (m64 (by omega) (by omega)) ?_
        walk_at "go"
        refine v_mulI (m64l (by omega) (by omega)) ?_
        walk_at "go"
        refine v_mulI (m64 (by omega) (by omega)) ?_
        walk_at "go"
        refine ⟨by show 2 ≤ sizeLine; decide, fun p5 hp5 => ?_⟩
        have hRD := hRC.new (o := .tup [.int (tt * wh + q * bb), .int (bb * wh)]) hp5
        walk_at "go"
        have h5b : HC S = some (.dK kvs) := sN.at_ h5
        have Sp5 : S ≠ p5 := ne_of_none h5b hp5
        have h5c : (upd HC p5 (.tup [.int (tt * wh + q * bb), .int (bb * wh)])) S = some (.dK kvs) := by rw [upd_ne Sp5]; exact h5b
        refine v_setD (k := .inr pr.1) h5c (sz_lt (by omega)) ?_
        have sX : Same (hid S H8) (hid S (upd HC p5 (.tup [.int (tt * wh + q * bb), .int (bb * wh)]))) := hid_same (sN.trans (Same.new hp5)).but
        have sY : Same (hid S (upd HC p5 (.tup [.int (tt * wh + q * bb), .int (bb * wh)]))) (hid S (upd (upd HC p5 (.tup [.int (tt * wh + q * bb), .int (bb * wh)])) S (.dK (putK kvs (.inr pr.1) (.ref p5))))) := hid_same But.upd
        have hp5b : (hid S (upd (upd HC p5 (.tup [.int (tt * wh + q * bb), .int (bb * wh)])) S (.dK (putK kvs (.inr pr.1) (.ref p5))))) p5 = some (.tup [.int (tt * wh + q * bb), .int (bb * wh)]) := sY.at_ (hid_of upd_same Sp5.symm)
        have hkv2 : (upd (upd HC p5 (.tup [.int (tt * wh + q * bb), .int (bb * wh)])) S (.dK (putK kvs (.inr pr.1) (.ref p5)))) S = some (.dK (putK kvs (.inr pr.1) (.ref p5))) := upd_same
        have hl2 : (upd (upd HC p5 (.tup [.int (tt * wh + q * bb), .int (bb * wh)])) S (.dK (putK kvs (.inr pr.1) (.ref p5)))) l = some (.lst vb) := by
          rw [upd_ne lS]
          exact (Same.new hp5).at_ (sN.at_ h1)
        have drE : Dr w0 H (upd (upd HC p5 (.tup [.int (tt * wh + q * bb), .int (bb * wh)])) S (.dK (putK kvs (.inr pr.1) (.ref p5)))) := hRD.dr.mut hw hS
        have sXY := sX.trans sY
        generalize upd (upd HC p5 (.tup [.int (tt * wh + q * bb), .int (bb * wh)])) S (.dK (putK kvs (.inr pr.1) (.ref p5))) = HE at *
        walk_at "go"
        refine ⟨.inl ⟨rfl, _, SqL.of hl2⟩, ?_⟩
        walk_at "go"
        refine use_draw (n := days) drE.well (by omega) (by omega) fun r7 HF hr70 hr71 dF => ?_
        walk_at "go"
        refine ⟨by show 4 ≤ sizeLine; decide, fun tp htp => ?_⟩
        have hlF := dF.but _ _ lw hl2
        have ltp : l ≠ tp := ne_of_none hlF htp
        have Stp : S ≠ tp := ne_of_none (dF.but _ _ Sw hkv2) htp
        walk_at "go"
        refine v_app ((Same.new htp).at_ hlF) (by rw [DpAll.len h2, List.length_map]; exact sz_lt (by omega)) ?_
        have sT : SameT (hid S HE) (hid S (upd (upd HF tp (.tup [.str pr.1, .int q, .int wh, .int (2 + r7)])) l (.lst (vb ++ [.ref tp])))) := (hid_sameT (dF.sameT drE.well)).trans ((hid_same (Same.new htp).but).sameT.trans (hid_sameT (SameT.upd ((Same.new htp).at_ hlF))))
        have sT2 := sXY.sameT.trans sT
        have e1 : sumsOf (xs ++ [(pr.1, q, wh, 2 + r7)]) = putS (sumsOf xs) pr.1 (tt * wh + q * bb, bb * wh) := by
          rw [sumsOf_snoc]
          unfold sumS
          rw [g1]
        have hS7 : ∀ s ∈ sumsOf (xs ++ [(pr.1, q, wh, 2 + r7)]), SumR (i + 1) s.2 := by
          rw [e1]
          exact putS_all (Q := SumR (i + 1)) (fun x hx => sumR_mono (h7 x hx)) (sumR_next g4 hw1 hw2 hq0 hqc)
        refine ⟨⟨_, _, _, _, _, _, rfl⟩, ((drE.trans dF).new htp).mut hw hl0, xs ++ [(pr.1, q, wh, 2 + r7)], _, putK kvs (.inr pr.1) (.ref p5), upd_same, ?_, by rw [List.length_append, h3, List.length_singleton], ?_, ?_, ?_, ?_, ?_, ?_⟩
        · rw [List.map_append]
          refine DpAll.snoc (DpAll.sameT sT2 h2 (map_noL fun _ => lD_noL)) (.tup (SqT.of (xs := [.str pr.1, .int q, .int wh, .int (2 + r7)]) ?_) (.cons (.str _) (.cons (.int _) (.cons (.int _) (.cons (.int _) .nil)))))
          refine hid_of ?_ Stp.symm
          rw [upd_ne ltp.symm]
          exact upd_same
        · intro x hx
          rcases List.mem_append.mp hx with hx | hx
          · exact h4 x hx
          · rw [List.mem_singleton.mp hx]
            exact ⟨List.mem_map.mpr ⟨pr, hp1', rfl⟩, ⟨hq0, hq1⟩, ⟨hw1, hw2⟩, by show 2 ≤ 2 + r7; omega, by show 2 + r7 ≤ days + 1; omega⟩
        · rw [upd_ne lS.symm]
          exact (Same.new htp).at_ (dF.but _ _ Sw hkv2)
        · rw [e1]
          exact sv_put (sv_imp (fun _ _ z => z.sameT sT2) h6) ⟨p5, rfl, sT _ _ hp5b (fun _ e => by cases e)⟩
        · exact hS7
        · exact Nat.le_trans (length_putK _ _ _) (Nat.succ_le_succ h8)
        · intro m s hs'
          by_cases hm : m ≤ xs.length
          · rw [List.take_append_of_le_length hm] at hs'
            exact h9 m s hs'
          · rw [List.take_of_length_le (by rw [List.length_append, List.length_singleton]; omega)] at hs'
            exact (hS7 s hs').2.1
      · intro U hU
        walk_at "go"
        refine v_mulI (m64 (by omega) (by omega)) ?_
        walk_at "go"
        refine v_mulI (m64l (by omega) (by omega)) ?_
        walk_at "go"
        refine v_mulI (m64 (by omega) (by omega)) ?_
        walk_at "go"
        refine it2 (fun hgt => ?_) (fun hgt => ?_)
        · walk_at "go"
          refine v_mulI (m64 (by omega) (by omega)) ?_
          walk_at "go"
          refine v_divI (sum_div g4 (by omega)) ?_
          walk_at "go"
          obtain ⟨c1, c2, c3⟩ := clamp g4.2.2.1 g4.1 g4.2.1 hw1
          exact hU _ _ ⟨rfl, _, c1, c2, c3, rfl⟩
        · walk_at "go"
          exact hU _ _ ⟨rfl, _, hpt0, hpt1, by omega, rfl⟩
    · rintro σ H4 ⟨⟨v5, v6, v7, v8, v9, v10, rfl⟩, dr, xs, vb, kvs, h1, h2, h3, h4, h5, h6, h7, h8, h9⟩
      walk_at "go"
      exact k l xs vb H4 dr hl0 h1 (DpAll.same hid_le h2) (by omega) h4 h9
end
end Kn

set_option Elab.async false
set_option linter.all false
set_option maxRecDepth 100000
set_option maxHeartbeats 4000000
namespace Kn
open PySem PySem.Spec PyProof.Rows L2
local macro_rules | `(tactic| walk_at "go1") => `(tactic| first
  | with_reducible refine s_seq ?_
  | with_reducible refine s_var rfl ?_
  | with_reducible refine s_c ?_
  | with_reducible refine s_cons ?_
  | with_reducible refine s_nil ?_
  | with_reducible refine s_asg ?_
  | with_reducible refine s_name ?_
  | with_reducible refine s_op ?_
  | with_reducible refine s_call ?_
  | with_reducible refine s_cb ?_
  | with_reducible refine s_ret ?_
  | with_reducible refine s_drop ?_
  | with_reducible refine s_next ?_
  | with_reducible refine s_ifs ?_
  | with_reducible refine s_test ?_
  | with_reducible refine s_tB ?_
  | with_reducible refine s_blP ?_
  | with_reducible refine s_intP ?_
  | with_reducible refine iteT ?_
  | with_reducible refine iteF ?_
  | with_reducible refine ite_not ?_
  | with_reducible refine s_and ?_
  | with_reducible refine s_or ?_
  | with_reducible refine s_not ?_
  | with_reducible refine s_andV ?_
  | with_reducible refine s_orV ?_
  | with_reducible refine s_notV ?_
  | with_reducible refine s_chain ?_
  | with_reducible refine s_sub ?_
  | with_reducible refine s_bm ?_
  | with_reducible refine s_sl ?_
  | with_reducible refine s_part ?_
  | with_reducible refine s_nop ?_
  | with_reducible refine s_make ?_
  | with_reducible refine s_un ?_
  | with_reducible refine s_ifE ?_
  | with_reducible refine s_dget ?_
  | with_reducible refine s_dget2 ?_
  | with_reducible refine s_dnew ?_
  | with_reducible refine s_ivals ?_
  | with_reducible refine s_brk ?_
  | with_reducible refine s_gcons ?_
  | with_reducible refine s_gnil ?_
  | with_reducible refine s_meth ?_
  | with_reducible refine s_rev ?_
  | with_reducible refine s_lc ?_
  | with_reducible refine s_rng1 ?_
  | with_reducible refine s_ilst ?_
  | with_reducible refine s_istr ?_
  | with_reducible refine s_for ?_
  | with_reducible refine s_yes ?_
  | with_reducible refine s_wipe rfl ?_
  | with_reducible refine s_kget ?_
  | with_reducible refine s_strP ?_
  | with_reducible refine s_fldS ?_
  | with_reducible refine s_fld ?_
  | with_reducible refine s_tup ?_
  | with_reducible refine s_lst ?_
  | with_reducible refine v_addI ?_
  | with_reducible refine v_subI ?_
  | with_reducible refine v_lt ?_
  | with_reducible refine v_le ?_
  | with_reducible refine v_gt ?_
  | with_reducible refine v_ge ?_
  | with_reducible refine v_eqI ?_
  | with_reducible refine v_eqS ?_
  | with_reducible refine v_neS ?_
  | with_reducible refine v_neI ?_)
local macro_rules | `(tactic| walk_at "go") => `(tactic| repeat walk_at "go1")

section
variable {w : World} {P : Program} {mg : Str → Option Value} {K : PySem.W.Frag} {base : Heap}
def sp_Lparts (K : PySem.W.Frag) : Sp := fun vs H Q _ => ∃ w, vs = [.ref w] ∧ WellAt H w ∧ ∀ (pl h l r : Addr) (days : Int) (hs : List (Str × Str)) (ls rs : List LimT) (H' : Hp), Dr w H H' → H pl = none → H h = none → H l = none → H r = none → Parts K H' pl h l r days hs ls rs → Q (.ref pl) H'
theorem use_llimits {K : PySem.W.Frag} {H : Hp} {Q : VK} {E : XK} {w hl : Addr} {days : Int} {va : List V} {hs : List (Str × Str)} (h1 : WellAt H w) (h2 : H hl = some (.lst va)) (h3 : hl ≠ w) (h4 : DpAll K H va (hs.map hD)) (h5 : Heads hs) (h6 : NmsOk hs) (h7 : 1 ≤ days) (h8 : days ≤ 30)
  (k : ∀ (l : Addr) (xs : List LimT) (vb : List V) (H' : Hp), Dr w H H' → H l = none → H' l = some (.lst vb) → DpAll K H' vb (xs.map lD) → xs.length ≤ 6 → (∀ x ∈ xs, LimR (hs.map (·.1)) days x) → Q (.ref l) H') : sp_Llimits K [.ref w, .ref hl, .int days] H Q E := ⟨w, hl, days, va, hs, rfl, h1, h2, h3, h4, h5, h6, h7, h8, k⟩
theorem use_lrules {K : PySem.W.Frag} {H : Hp} {Q : VK} {E : XK} {w hl : Addr} {days : Int} {va : List V} {hs : List (Str × Str)} (h1 : WellAt H w) (h2 : H hl = some (.lst va)) (h3 : hl ≠ w) (h4 : DpAll K H va (hs.map hD)) (h5 : Heads hs) (h6 : NmsOk hs) (h7 : 1 ≤ days) (h8 : days ≤ 30)
  (k : ∀ (l : Addr) (xs : List LimT) (vb : List V) (H' : Hp), Dr w H H' → H l = none → H' l = some (.lst vb) → DpAll K H' vb (xs.map lD) → xs.length ≤ 4 → (∀ x ∈ xs, RuleR (hs.map (·.1)) days x) → (∀ m, ∀ s ∈ sumsOf (xs.take m), s.2.1 ≤ s.2.2) → Q (.ref l) H') : sp_Lrules K [.ref w, .ref hl, .int days] H Q E := ⟨w, hl, days, va, hs, rfl, h1, h2, h3, h4, h5, h6, h7, h8, k⟩

theorem ok_Lparts (T : Tx P w K mg base) : DefOk P w K mg base 5 ("_law_parts", none) ["_law_well_here"] (sp_Lparts K) := by
  refine mkOk T.f_Lparts sc_Lparts (fun vs H Q E h => ?_) (fun _ _ _ _ _ _ us hl => match us, hl with | [_], _ => rfl) (fun cdv A outer s H vs Q E hr h => ?_)
  · obtain ⟨w0, rfl, hw, k⟩ := h
    rfl
  · obtain ⟨w0, rfl, hw, k⟩ := h
    refine ⟨_, (pss_cons (ps_set (i := 1) sc_Lparts.nd rfl (Or.inl rfl) (pe_ix (ixK K rfl) (pe_lst (pa_cons (pe_op kAdd pe_int (kc (ok_Ldraw (K := K) T) T.g__law_draw (hr.mono (by decide)) pB (pa_cons (pv 0) (pa_cons pe_int pa_nil)))) (pa_cons pe_int (pa_cons pe_int pa_nil)))) (pe_ix (ixK K rfl) (pe_lst (pa_cons pe_int (pa_cons pe_int (pa_cons pe_int (pa_cons pe_int (pa_cons pe_int pa_nil)))))) (kc (ok_Ldraw (K := K) T) T.g__law_draw (hr.mono (by decide)) pB (pa_cons (pv 0) (pa_cons pe_int pa_nil))) (fun _ _ => rfl)) (fun _ _ => rfl)))
      (pss_cons (ps_set (i := 2) sc_Lparts.nd rfl (Or.inl rfl) (kc (ok_Lheads (K := K) T) T.g__law_heads (hr.mono (by decide)) pB (pa_cons (pv 0) pa_nil)))
      (pss_one (ps_ret (pe_lst (pa_cons (pv 1) (pa_cons (pv 2) (pa_cons (kc (ok_Llimits (K := K) T) T.g__law_limits (hr.mono (by decide)) pB (pa_cons (pv 0) (pa_cons (pv 2) (pa_cons (pv 1) pa_nil)))) (pa_cons (kc (ok_Lrules (K := K) T) T.g__law_rules (hr.mono (by decide)) pB (pa_cons (pv 0) (pa_cons (pv 2) (pa_cons (pv 1) pa_nil)))) pa_nil))))))))), ?_⟩
    walk_at "go"
    refine use_draw (n := 30) hw (by decide) (by decide) fun r0 H1 hr0 hr1 d1 => ?_
    walk_at "go"
    refine ⟨by show 3 ≤ sizeLine; decide, fun p1 hp1 => ?_⟩
    have d2 := d1.new (o := .lst [.int (1 + r0), .int 30, .int 1]) hp1
    have n1 : p1 ≠ w0 := Dr.ne d1.well hp1
    walk_at "go"
    refine ⟨by show 5 ≤ sizeLine; decide, fun p2 hp2 => ?_⟩
    have d3 := d2.new (o := .lst [.int 0, .int 0, .int 0, .int 1, .int 2]) hp2
    have n2 : p2 ≠ w0 := Dr.ne d2.well hp2
    walk_at "go"
    refine use_draw (n := 5) d3.well (by decide) (by decide) fun r2 H2 hs0 hs1 d4 => ?_
    obtain ⟨m, hm, hat⟩ := pick_int (xs := [0, 0, 0, 1, 2]) hs0 hs1
    have q1 : H2 p1 = some (.lst [.int (1 + r0), .int 30, .int 1]) := d4.but _ _ n1 ((Same.new hp2).at_ upd_same)
    refine v_ixL (SqL.of (d4.but _ _ n2 upd_same)) hat ?_
    walk_at "go"
    have hm3 : 0 ≤ m ∧ m < 3 := by
      rcases (show m = 0 ∨ m = 1 ∨ m = 2 by simpa using hm) with rfl | rfl | rfl <;> decide
    obtain ⟨days, hd, hat2⟩ := pick_int (xs := [1 + r0, 30, 1]) hm3.1 hm3.2
    have hdd : 1 ≤ days ∧ days ≤ 30 := by
      rcases (show days = 1 + r0 ∨ days = 30 ∨ days = 1 by simpa using hd) with rfl | rfl | rfl <;> omega
    refine v_ixL (SqL.of q1) hat2 ?_
    walk_at "go"
    have d5 := d3.trans d4
    refine use_lheads d4.well fun h hs va H3 d6 hh0 hh1 hda hH hnm => ?_
    walk_at "go"
    have hw3 : h ≠ w0 := Dr.ne d4.well hh0
    refine use_llimits d6.well hh1 hw3 hda hH hnm hdd.1 hdd.2 fun l ls vb H4 d7 hl0 hl1 hdb l6 lr => ?_
    walk_at "go"
    have lw : l ≠ w0 := Dr.ne d6.well hl0
    have hda4 := DpAll.sameT (d7.sameT d6.well) hda (map_noL fun _ => hD_noL)
    refine use_lrules d7.well (d7.but _ _ hw3 hh1) hw3 hda4 hH hnm hdd.1 hdd.2 fun r rs vc H5 d8 hr0' hr1' hdc r4 rr su => ?_
    walk_at "go"
    refine ⟨by show 4 ≤ sizeLine; decide, fun pl hpl => ?_⟩
    have d67 := d6.trans d7
    have d9 := (d5.trans (d67.trans d8))
    have sN := Same.new (o := .lst [.int days, .ref h, .ref l, .ref r]) hpl
    refine k pl h l r days hs ls rs _ (d9.new hpl) (d9.free hw hpl) (d5.free hw hh0) ((d5.trans d6).free hw hl0) ((d5.trans d67).free hw hr0') ⟨upd_same, ⟨va, sN.at_ (d8.but _ _ hw3 (d7.but _ _ hw3 hh1)), DpAll.same sN (DpAll.sameT (d8.sameT d7.well) hda4 (map_noL fun _ => hD_noL))⟩, ⟨vb, sN.at_ (d8.but _ _ lw hl1), DpAll.same sN (DpAll.sameT (d8.sameT d7.well) hdb (map_noL fun _ => lD_noL))⟩, ⟨vc, sN.at_ hr1', DpAll.same sN hdc⟩, hH, hnm, hdd.1, hdd.2, l6, lr, r4, rr, su⟩
end
end Kn

set_option Elab.async false
set_option linter.all false
set_option maxRecDepth 100000
set_option maxHeartbeats 4000000
namespace Kn
open PySem PySem.Spec PyProof.Rows L2
local macro_rules | `(tactic| walk_at "go1") => `(tactic| first
  | with_reducible refine s_seq ?_
  | with_reducible refine s_var rfl ?_
  | with_reducible refine s_c ?_
  | with_reducible refine s_cons ?_
  | with_reducible refine s_nil ?_
  | with_reducible refine s_asg ?_
  | with_reducible refine s_name ?_
  | with_reducible refine s_op ?_
  | with_reducible refine s_call ?_
  | with_reducible refine s_cb ?_
  | with_reducible refine s_ret ?_
  | with_reducible refine s_drop ?_
  | with_reducible refine s_next ?_
  | with_reducible refine s_ifs ?_
  | with_reducible refine s_test ?_
  | with_reducible refine s_tB ?_
  | with_reducible refine s_blP ?_
  | with_reducible refine s_intP ?_
  | with_reducible refine iteT ?_
  | with_reducible refine iteF ?_
  | with_reducible refine ite_not ?_
  | with_reducible refine s_and ?_
  | with_reducible refine s_or ?_
  | with_reducible refine s_not ?_
  | with_reducible refine s_andV ?_
  | with_reducible refine s_orV ?_
  | with_reducible refine s_notV ?_
  | with_reducible refine s_chain ?_
  | with_reducible refine s_sub ?_
  | with_reducible refine s_bm ?_
  | with_reducible refine s_sl ?_
  | with_reducible refine s_part ?_
  | with_reducible refine s_nop ?_
  | with_reducible refine s_make ?_
  | with_reducible refine s_un ?_
  | with_reducible refine s_ifE ?_
  | with_reducible refine s_dget ?_
  | with_reducible refine s_dget2 ?_
  | with_reducible refine s_dnew ?_
  | with_reducible refine s_ivals ?_
  | with_reducible refine s_brk ?_
  | with_reducible refine s_gcons ?_
  | with_reducible refine s_gnil ?_
  | with_reducible refine s_meth ?_
  | with_reducible refine s_rev ?_
  | with_reducible refine s_lc ?_
  | with_reducible refine s_rng1 ?_
  | with_reducible refine s_ilst ?_
  | with_reducible refine s_istr ?_
  | with_reducible refine s_for ?_
  | with_reducible refine s_yes ?_
  | with_reducible refine s_wipe rfl ?_
  | with_reducible refine s_kget ?_
  | with_reducible refine s_strP ?_
  | with_reducible refine s_fldS ?_
  | with_reducible refine s_fld ?_
  | with_reducible refine s_tup ?_
  | with_reducible refine s_lst ?_
  | with_reducible refine v_addI ?_
  | with_reducible refine v_subI ?_
  | with_reducible refine v_lt ?_
  | with_reducible refine v_le ?_
  | with_reducible refine v_gt ?_
  | with_reducible refine v_ge ?_
  | with_reducible refine v_eqI ?_
  | with_reducible refine v_eqS ?_
  | with_reducible refine v_neS ?_
  | with_reducible refine v_neI ?_)
local macro_rules | `(tactic| walk_at "go") => `(tactic| repeat walk_at "go1")

section
variable {w : World} {P : Program} {mg : Str → Option Value} {K : PySem.W.Frag} {base : Heap}
def sp_Lknots (K : PySem.W.Frag) : Sp := fun vs H Q _ => ∃ (hl : Addr) (va : List V) (hs : List (Str × Str)) (s : Str), vs = [.ref hl, .str s] ∧ SqL K H hl va ∧ DpAll K H va (hs.map hD) ∧ Heads hs ∧ s ∈ hs.map (·.1) ∧ ∀ l H', H l = none → Same H H' → H' l = some (.lst ((knotsN hs s).map V.str)) → Q (.ref l) H'
theorem use_lknots {K : PySem.W.Frag} {H : Hp} {Q : VK} {E : XK} {hl : Addr} {va : List V} {hs : List (Str × Str)} {s : Str} (h1 : SqL K H hl va) (h2 : DpAll K H va (hs.map hD)) (hh : Heads hs) (hm : s ∈ hs.map (·.1)) (k : ∀ l H', H l = none → Same H H' → H' l = some (.lst ((knotsN hs s).map V.str)) → Q (.ref l) H') : sp_Lknots K [.ref hl, .str s] H Q E := ⟨hl, va, hs, s, rfl, h1, h2, hh, hm, k⟩

theorem ok_Lknots (T : Tx P w K mg base) : DefOk P w K mg base 1 ("_law_knots", none) ["_law_heads_here", "_law_name_here"] (sp_Lknots K) := by
  refine mkOk T.f_Lknots sc_Lknots (fun vs H Q E h => ?_) (fun _ _ _ _ _ _ us hl => match us, hl with | [_, _], _ => rfl) (fun cdv A outer s H vs Q E hr h => ?_)
  · obtain ⟨hl, va, hs, s, rfl, hhl, hda, hh, hm, k⟩ := h
    rfl
  · obtain ⟨hl, va, hs, s, rfl, hhl, hda, hh, hm, k⟩ := h
    refine ⟨_, (pss_cons (ps_set (i := 2) sc_Lknots.nd rfl (Or.inl rfl) (pe_callTy (dictK K rfl rfl) rfl T.n_dict (by decide +kernel) (pa_cons (pv 0) pa_nil)))
      (pss_cons (ps_set (i := 3) sc_Lknots.nd rfl (Or.inl rfl) (pe_lst pa_nil))
      (pss_cons (ps_for (passes_of rfl) rfl (pi_range1 rfl T.n_range (pa_cons (pe_callB (lenK K rfl) rfl T.n_len (by decide +kernel) (pa_cons (pv 0) pa_nil)) pa_nil)) (pg_name (i := 4) sc_Lknots.nd rfl (Or.inl rfl)) (pss_one (ps_if (pt_cmpR (neK K rfl hr) (pv 1) pe_str (nomark _)) (pss_cons (ps_expr (bmK K rfl PySem.F.plainAttrs_list PySem.F.slot_list_append PySem.F.type_list_append mt_append (pv 3) (pa_cons (pv 1) pa_nil)))
      (pss_one (ps_set (i := 1) sc_Lknots.nd rfl (Or.inl rfl) (pe_dget (hu_of hr) (pv 2) (pv 1) (fun _ _ => rfl))))) pss_nil)))
      (pss_one (ps_ret (pv 3)))))), ?_⟩
    obtain ⟨ps, rfl, hpp⟩ := heads_refs hda
    walk_at "go"
    refine .inl ⟨hl, ps, kvH hs, rfl, hhl, hpp, fun dd hdd => ?_⟩
    walk_at "go"
    refine ⟨by show 0 ≤ sizeLine; decide, fun l hl0 => ?_⟩
    have s1 := (Same.new (o := .dK (mergeK [] (kvH hs))) hdd).trans (Same.new (o := .lst []) hl0)
    have hd1 : (upd (upd H dd (.dK (mergeK [] (kvH hs)))) l (.lst [])) dd = some (.dK (mergeK [] (kvH hs))) := (Same.new hl0).at_ upd_same
    have nld : dd ≠ l := ne_of_none upd_same hl0
    have hlH : H l = none := free_of (Same.new hdd) hl0
    walk_at "go"
    refine v_lenL (s1.seq hhl) ?_
    walk_at "go"
    rw [DpAll.len hda, List.length_map]
    refine ⟨_, rfl, by omega, by have := hh.le; omega, ?_⟩
    rw [Int.toNat_natCast]
    refine for_it walk_range (fun i σ H' => ∃ n fs v4, σ = [some (.ref hl), some (.str n), some (.ref dd), some (.ref l), v4] ∧ (n = "" ∨ n ∈ hs.map (·.1)) ∧ Same H H' ∧ H' dd = some (.dK (mergeK [] (kvH hs))) ∧ H' l = some (.lst (List.map V.str fs)) ∧ fs.length ≤ i ∧ fs ++ knotsF hs (hs.length - i) n = knotsN hs s) ?_ (fun _ _ _ _ _ => trivial) ?_ ?_
    · exact ⟨s, [], none, rfl, .inr hm, s1, hd1, upd_same, Nat.le_refl _, rfl⟩
    · rintro i x σ H2 H2' hi ⟨n, fs, v4, rfl, hn, s3, q2, q3, hfl, hk⟩ ⟨rfl, hx⟩
      obtain rfl := rng0 hx
      walk_at "go"
      refine it2 (fun e => ?_) (fun e => ?_)
      · walk_at "go"
        subst e
        exact ⟨_, fs, _, rfl, .inl rfl, s3, q2, q3, by omega, by rw [knots_em] at hk ⊢; exact hk⟩
      · have hnm : n ∈ hs.map (·.1) := hn.resolve_left e
        have hk2 : (fs ++ [n]) ++ knotsF hs (hs.length - (i + 1)) (upN hs n) = knotsN hs s := by
          rw [← hk, show hs.length - i = (hs.length - (i + 1)) + 1 by omega, knots_go e, List.append_assoc]
          rfl
        walk_at "go"
        refine ⟨.inl ⟨rfl, _, SqL.of q3⟩, ?_⟩
        walk_at "go"
        refine v_app q3 (by rw [List.length_map]; exact sz_lt (by have := hh.le; omega)) ?_
        have q4 : (upd H2' l (.lst (List.map V.str fs ++ [V.str n]))) l = some (.lst (List.map V.str (fs ++ [n]))) := by
          rw [upd_same, List.map_append]
          rfl
        have q5 : (upd H2' l (.lst (List.map V.str fs ++ [V.str n]))) dd = some (.dK (mergeK [] (kvH hs))) := by rw [upd_ne nld]; exact q2
        walk_at "go"
        have ev : valV (mergeK [] (kvH hs)) (.inr n) = some (.str (upN hs n)) := by rw [merge_heads hh.ok n, if_pos hnm]
        refine ⟨dd, .str (upN hs n), rfl, by rw [← ev]; exact DGet.k (k := .inr n) q5, ?_⟩
        walk_at "go"
        exact ⟨_, fs ++ [n], _, rfl, hh.up hnm, s3.mut hlH, q5, q4, by rw [List.length_append]; exact Nat.succ_le_succ hfl, hk2⟩
    · rintro σ H2 ⟨n, fs, v4, rfl, hn, s3, q2, q3, hfl, hk⟩
      rw [Nat.sub_self] at hk
      have hk : fs ++ [] = knotsN hs s := hk
      rw [List.append_nil] at hk
      rw [hk] at q3
      walk_at "go"
      exact k l _ hlH s3 q3

def sp_Lall (K : PySem.W.Frag) : Sp := fun vs H Q _ => ∃ (hl : Addr) (va : List V) (hs : List (Str × Str)) (ws : List Addr), vs = [.ref hl] ∧ SqL K H hl va ∧ DpAll K H va (hs.map hD) ∧ Heads hs ∧ Fr ws H ∧ ∀ l vc H', H l = none → Same H H' → H' l = some (.lst vc) → DpAll K (hidL ws H') vc (allD hs) → Q (.ref l) H'
theorem use_lall {K : PySem.W.Frag} {H : Hp} {Q : VK} {E : XK} {hl : Addr} {va : List V} {hs : List (Str × Str)} (ws : List Addr) (h1 : SqL K H hl va) (h2 : DpAll K H va (hs.map hD)) (hh : Heads hs) (hf : Fr ws H) (k : ∀ l vc H', H l = none → Same H H' → H' l = some (.lst vc) → DpAll K (hidL ws H') vc (allD hs) → Q (.ref l) H') : sp_Lall K [.ref hl] H Q E := ⟨hl, va, hs, ws, rfl, h1, h2, hh, hf, k⟩

theorem ok_Lall (T : Tx P w K mg base) : DefOk P w K mg base 2 ("_law_all", none) ["_law_heads_here"] (sp_Lall K) := by
  refine mkOk T.f_Lall sc_Lall (fun vs H Q E h => ?_) (fun _ _ _ _ _ _ us hl => match us, hl with | [_], _ => rfl) (fun cdv A outer s H vs Q E hr h => ?_)
  · obtain ⟨hl, va, hs, ws, rfl, hhl, hda, hh, hf, k⟩ := h
    rfl
  · obtain ⟨hl, va, hs, ws, rfl, hhl, hda, hh, hf, k⟩ := h
    refine ⟨_, (pss_cons (ps_setLc (i := 1) (own := [("_law_name_here", 3), ("_law_above", 4)]) rfl sc_Lall.nd rfl rfl (sw_true rfl rfl rfl (by decide +kernel)) (psqK K rfl (pv 0)) (blkOk_by (N := nm_Lall) (sc := defScope s_Lall) (by decide +kernel)) (fun _ _ _ _ _ => (gtK (n := 2) K rfl rfl (pgs_cons (pg_name (i := 3) sc_Lall.nd rfl (Or.inl rfl)) (pgs_cons (pg_name (i := 4) sc_Lall.nd rfl (Or.inl rfl)) pgs_nil)))) (fun _ _ _ _ _ => pts_nil) (fun _ _ _ _ _ => (pv 3)))
      (pss_cons (ps_set (i := 2) sc_Lall.nd rfl (Or.inl rfl) (pe_lst pa_nil))
      (pss_cons (ps_for (passes_of rfl) rfl (psqK K rfl (pv 0)) (gtK (n := 2) K rfl rfl (pgs_cons (pg_name (i := 3) sc_Lall.nd rfl (Or.inr rfl)) (pgs_cons (pg_name (i := 4) sc_Lall.nd rfl (Or.inl rfl)) pgs_nil))) (pss_one (ps_expr (bmK K rfl PySem.F.plainAttrs_list PySem.F.slot_list_append PySem.F.type_list_append mt_append (pv 2) (pa_cons (pe_tup (pa_cons (pv 4) (pa_cons (kc (ok_Lknots (K := K) T) T.g__law_knots (hr.mono (by decide)) pB (pa_cons (pv 0) (pa_cons (pv 3) pa_nil))) (pa_cons (pe_lc (own := [("_law_one", 5)]) rfl sc_Lall.nd (psqK K rfl (pv 1)) (blkOk_by (N := nm_Lall) (sc := defScope s_Lall) (by decide +kernel)) (fun _ _ _ _ _ => (pg_name (i := 5) sc_Lall.nd rfl (Or.inl rfl))) (fun _ _ _ _ _ => (pts_one (pt_cmpR (inK K rfl hr) (pv 3) (kc (ok_Lknots (K := K) T) T.g__law_knots (hr.mono (by decide)) passL (pa_cons (pv 0) (pa_cons (pv 5) pa_nil))) (by rfl)))) (fun _ _ _ _ _ => (pv 5))) pa_nil)))) pa_nil)))))
      (pss_one (ps_ret (pv 2)))))), ?_⟩
    have S0 := Same.refl H
    walk_at "go"
    refine s_isL ?_
    walk_at "go"
    refine ⟨hl, rfl, ⟨_, S0.seq hhl⟩, fun D hD => lc_it (walk_list (xs := va)) (fun i H' => Same H H' ∧ H' D = some (.lst (((hs.take i).map (·.1)).map V.str))) ?_ (fun _ _ _ h => h.1.seq (S0.seq hhl)) ?_ ?_⟩
    · exact ⟨Same.new hD, upd_same⟩
    · rintro i x H2 H2' hi ⟨s3, q3⟩ ⟨rfl, hx⟩
      obtain ⟨pr, t, hpr, rfl, ht⟩ := heads_at (DpAll.same (S0.trans s3) hda) hx
      refine s_gsT ht rfl ?_
      walk_at "go"
      refine ⟨_, q3, ?_, s3.mut hD, ?_⟩
      · rw [List.length_map, List.length_map]
        exact Nat.lt_of_le_of_lt (List.length_take_le' _ _) (Nat.lt_of_le_of_lt hh.le (by decide))
      · rw [upd_same, List.take_add_one, hpr, List.map_append, List.map_append]
        rfl
    rintro H3 ⟨s3, q3⟩
    rw [DpAll.len hda, List.length_map, List.take_length] at q3
    
    walk_at "go"
    refine ⟨by show 0 ≤ sizeLine; decide, fun l hl0 => ?_⟩
    have hlH := free_of s3 hl0
    have s4 := s3.trans (Same.new (o := .lst []) hl0)
    have nDl : D ≠ l := ne_of_none q3 hl0
    have q4 : (upd H3 l (.lst [])) D = some (.lst ((hs.map (·.1)).map V.str)) := (Same.new hl0).at_ q3
    have lws : l ∉ ws := hf.nin s3 hl0
    walk_at "go"
    refine s_isL ?_
    walk_at "go"
    refine ⟨hl, rfl, ⟨_, s4.seq hhl⟩, ?_⟩
    refine for_it (walk_list (xs := va)) (fun i σ H' => (∃ v3 v4 v5, σ = [some (.ref hl), some (.ref D), some (.ref l), v3, v4, v5]) ∧ Same H H' ∧ H' D = some (.lst ((hs.map (·.1)).map V.str)) ∧ ∃ vc, H' l = some (.lst vc) ∧ DpAll K (hidL (l :: ws) H') vc ((hs.take i).map (allOne hs))) ?_ (fun _ _ _ _ h => h.2.1.seq hhl) ?_ ?_
    · exact ⟨⟨_, _, _, rfl⟩, s4, q4, [], upd_same, .nil⟩
    · rintro i x σ H5 H5' hi ⟨⟨v3, v4, v5, rfl⟩, s5, q5, vc, q6, hdc⟩ ⟨rfl, hx⟩
      obtain ⟨pr, t, hpr, rfl, ht⟩ := heads_at (DpAll.same s5 hda) hx
      have hm : pr.1 ∈ hs.map (·.1) := List.mem_map.mpr ⟨pr, List.mem_of_getElem? hpr, rfl⟩
      refine s_gsT ht rfl ?_
      walk_at "go"
      refine ⟨.inl ⟨rfl, _, SqL.of q6⟩, ?_⟩
      walk_at "go"
      refine use_lknots (s5.seq hhl) (DpAll.same s5 hda) hh hm fun k1 H6 hk1 s6 q7 => ?_
      walk_at "go"
      refine s_isL ?_
      walk_at "go"
      have s56 := s5.trans s6
      refine ⟨D, rfl, ⟨_, SqL.of (s6.at_ q5)⟩, fun D2 hD2 => lc_it (walk_list (xs := (hs.map (·.1)).map V.str)) (fun i H' => Same H6 H' ∧ H' D2 = some (.lst ((((hs.map (·.1)).take i).filter fun o => decide (pr.1 ∈ knotsN hs o)).map V.str))) ?_ (fun _ _ _ h => SqL.of (h.1.at_ (s6.at_ q5))) ?_ ?_⟩
      · exact ⟨Same.new hD2, upd_same⟩
      · rintro j x H7 H7' hj ⟨s7, q8⟩ ⟨rfl, hx⟩
        rw [List.getElem?_map] at hx
        obtain ⟨n, hn, rfl⟩ := Option.map_eq_some_iff.mp hx
        have hnm : n ∈ hs.map (·.1) := List.mem_of_getElem? hn
        have s57 := s56.trans s7
        walk_at "go"
        refine use_lknots (s57.seq hhl) (DpAll.same s57 hda) hh hnm fun k2 H8 hk2 s8 q9 => ?_
        refine v_inStr (SqL.of q9) ?_
        walk_at "go"
        have et : (hs.map (·.1)).take (j + 1) = (hs.map (·.1)).take j ++ [n] := by rw [List.take_add_one, hn]; rfl
        refine it2 (fun hin => ?_) (fun hin => ?_)
        · walk_at "go"
          refine ⟨_, s8.at_ q8, ?_, (s7.trans s8).mut hD2, ?_⟩
          · rw [List.length_map]
            refine sz_lt (Nat.le_trans (List.length_filter_le _ _) (Nat.le_trans (List.length_take_le' _ _) ?_))
            rw [List.length_map]
            have := hh.le
            omega
          · rw [upd_same, et, List.filter_append, List.map_append]
            simp [hin]
        · refine ⟨s7.trans s8, ?_⟩
          rw [et, List.filter_append, s8.at_ q8]
          simp [hin]
      rintro H7 ⟨s7, q8⟩
      rw [List.take_of_length_le (by simp)] at q8
      walk_at "go"
      refine ⟨by show 3 ≤ sizeLine; decide, fun tp htp => ?_⟩
      walk_at "go"
      have s9 : Same H5' (upd H7 tp (.tup [.str pr.2, .ref k1, .ref D2])) := (s6.trans s7).trans (Same.new htp)
      refine v_app (s9.at_ q6) (by rw [DpAll.len hdc, List.length_map]; exact Nat.lt_of_le_of_lt (List.length_take_le' _ _) (sz_lt (by have := hh.le; omega))) ?_
      have i1 : k1 ∉ l :: ws := by
        intro hm
        rcases List.mem_cons.mp hm with e | hm
        · rw [e, q6] at hk1; cases hk1
        · exact hf.nin s5 hk1 hm
      have i2 : D2 ∉ l :: ws := by
        intro hm
        rcases List.mem_cons.mp hm with e | hm
        · rw [e, s6.at_ q6] at hD2; cases hD2
        · exact hf.nin s56 hD2 hm
      have i3 : tp ∉ l :: ws := by
        intro hm
        rcases List.mem_cons.mp hm with e | hm
        · rw [e, (s6.trans s7).at_ q6] at htp; cases htp
        · exact hf.nin (s56.trans s7) htp hm
      have sH : Same (hidL (l :: ws) (upd H7 tp (.tup [.str pr.2, .ref k1, .ref D2]))) (hidL (l :: ws) (upd (upd H7 tp (.tup [.str pr.2, .ref k1, .ref D2])) l (.lst (vc ++ [.ref tp])))) := hidL_upd (List.mem_cons_self ..)
      refine ⟨⟨_, _, _, rfl⟩, (s5.trans s9).mut hlH, by rw [upd_ne nDl]; exact s9.at_ q5, _, upd_same, ?_⟩
      rw [List.take_add_one, hpr, List.map_append]
      refine DpAll.snoc (DpAll.same ((hidL_same s9).trans sH) hdc) (.tup (SqT.of (sH.at_ (hidL_of upd_same i3))) (.cons (.str _) (.cons (.lst (SqL.of (sH.at_ (hidL_of ((Same.new htp).at_ (s7.at_ q7)) i1))) DpAll.strs) (.cons (.lst (SqL.of (sH.at_ (hidL_of ((Same.new htp).at_ q8) i2))) DpAll.strs) .nil))))
    · rintro σ H5 ⟨⟨v3, v4, v5, rfl⟩, s5, q5, vc, q6, hdc⟩
      rw [DpAll.len hda, List.length_map, List.take_length] at hdc
      walk_at "go"
      exact k l vc _ hlH s5 q6 (DpAll.same (hidL_sub fun x hx => List.mem_cons_of_mem _ hx) hdc)

def sp_Ldue (K : PySem.W.Frag) : Sp := fun vs H Q _ => ∃ (pl h l r : Addr) (days : Int) (hs : List (Str × Str)) (ls rs : List LimT) (ws : List Addr), vs = [.ref pl] ∧ Parts K H pl h l r days hs ls rs ∧ Parts K (hidL ws H) pl h l r days hs ls rs ∧ Fr ws H ∧ ∀ p H', Same H H' → H p = none → Dp K (hidL ws H') (.ref p) (dueD days hs (ls.map lD) (rs.map lD)) → Q (.ref p) H'
theorem use_ldue {K : PySem.W.Frag} {H : Hp} {Q : VK} {E : XK} {pl h l r : Addr} {days : Int} {hs : List (Str × Str)} {ls rs : List LimT} (ws : List Addr) (h1 : Parts K H pl h l r days hs ls rs) (h2 : Parts K (hidL ws H) pl h l r days hs ls rs) (hf : Fr ws H) (k : ∀ p H', Same H H' → H p = none → Dp K (hidL ws H') (.ref p) (dueD days hs (ls.map lD) (rs.map lD)) → Q (.ref p) H') : sp_Ldue K [.ref pl] H Q E := ⟨pl, h, l, r, days, hs, ls, rs, ws, rfl, h1, h2, hf, k⟩

theorem ok_Ldue (T : Tx P w K mg base) : DefOk P w K mg base 3 ("_law_due", none) ["_law_parts_here"] (sp_Ldue K) := by
  refine mkOk T.f_Ldue sc_Ldue (fun vs H Q E h => ?_) (fun _ _ _ _ _ _ us hl => match us, hl with | [_], _ => rfl) (fun cdv A outer s H vs Q E hr h => ?_)
  · obtain ⟨pl, h, l, r, days, hs, ls, rs, ws, rfl, hP, hQ, hf, k⟩ := h
    rfl
  · obtain ⟨pl, h, l, r, days, hs, ls, rs, ws, rfl, hP, hQ, hf, k⟩ := h
    refine ⟨_, (pss_cons (ps_asg (pv 0) (gtK (n := 4) K rfl rfl (pgs_cons (pg_name (i := 1) sc_Ldue.nd rfl (Or.inl rfl)) (pgs_cons (pg_name (i := 2) sc_Ldue.nd rfl (Or.inl rfl)) (pgs_cons (pg_name (i := 3) sc_Ldue.nd rfl (Or.inl rfl)) (pgs_cons (pg_name (i := 4) sc_Ldue.nd rfl (Or.inl rfl)) pgs_nil))))))
      (pss_one (ps_ret (pe_op kAdd (pe_lst (pa_cons (pv 1) (pa_cons (pv 2) (pa_cons (pv 3) (pa_cons (pv 4) (pa_cons (pe_lc (own := [("_law_name_here", 5), ("_law_above", 6)]) rfl sc_Ldue.nd (psqK K rfl (pv 2)) (blkOk_by (N := nm_Ldue) (sc := defScope s_Ldue) (by decide +kernel)) (fun _ _ _ _ _ => (gtK (n := 2) K rfl rfl (pgs_cons (pg_name (i := 5) sc_Ldue.nd rfl (Or.inl rfl)) (pgs_cons (pg_name (i := 6) sc_Ldue.nd rfl (Or.inl rfl)) pgs_nil)))) (fun _ _ _ _ _ => pts_nil) (fun _ _ _ _ _ => (pv 5))) pa_nil)))))) (kc (ok_Lall (K := K) T) T.g__law_all (hr.mono (by decide)) pB (pa_cons (pv 2) pa_nil)))))), ?_⟩
    have S0 := Same.refl H
    obtain ⟨va, hhl, hda⟩ := hP.ah
    have hhl := SqL.of (K := K) hhl
    have hh := hP.hh
    walk_at "go"
    refine s_gsL (SqL.of hP.at_) rfl ?_
    walk_at "go"
    refine s_isL ?_
    walk_at "go"
    refine ⟨h, rfl, ⟨_, S0.seq hhl⟩, fun D hD => lc_it (walk_list (xs := va)) (fun i H' => Same H H' ∧ H' D = some (.lst (((hs.take i).map (·.1)).map V.str))) ?_ (fun _ _ _ h => h.1.seq (S0.seq hhl)) ?_ ?_⟩
    · exact ⟨Same.new hD, upd_same⟩
    · rintro i x H2 H2' hi ⟨s3, q3⟩ ⟨rfl, hx⟩
      obtain ⟨pr, t, hpr, rfl, ht⟩ := heads_at (DpAll.same (S0.trans s3) hda) hx
      refine s_gsT ht rfl ?_
      walk_at "go"
      refine ⟨_, q3, ?_, s3.mut hD, ?_⟩
      · rw [List.length_map, List.length_map]
        exact Nat.lt_of_le_of_lt (List.length_take_le' _ _) (Nat.lt_of_le_of_lt hh.le (by decide))
      · rw [upd_same, List.take_add_one, hpr, List.map_append, List.map_append]
        rfl
    rintro H3 ⟨s3, q3⟩
    rw [DpAll.len hda, List.length_map, List.take_length] at q3
    
    walk_at "go"
    refine ⟨by show 5 ≤ sizeLine; decide, fun p1 hp1 => ?_⟩
    have s4 := s3.trans (Same.new (o := .lst [.int days, .ref h, .ref l, .ref r, .ref D]) hp1)
    walk_at "go"
    refine use_lall ws (s4.seq hhl) (DpAll.same s4 hda) hh (hf.same s4) fun al vc H5 hal s5 q5 hdc => ?_
    refine v_addL (s5.at_ upd_same) q5 (by rw [DpAll.len hdc, allD_is, List.length_map]; exact sz (by have := hh.le; show 5 + _ ≤ _; omega)) fun p hp => ?_
    have s6 := s4.trans s5
    have s7 := s6.trans (Same.new (o := .lst ([.int days, .ref h, .ref l, .ref r, .ref D] ++ vc)) hp)
    have hQ7 := hQ.same (hidL_same s7)
    obtain ⟨_, a1, a2⟩ := hQ7.ah
    obtain ⟨_, b1, b2⟩ := hQ7.al
    obtain ⟨_, c1, c2⟩ := hQ7.ar
    refine k p _ s7 (free_of s6 hp) (.lst (SqL.of (hidL_of upd_same (hf.nin s6 hp))) ?_)
    have e1 := DpAll.same (hidL_same (ws := ws) (Same.new (o := .lst ([.int days, .ref h, .ref l, .ref r, .ref D] ++ vc)) hp)) hdc
    refine .cons (.int _) (.cons (.lst (SqL.of a1) a2) (.cons (.lst (SqL.of b1) b2) (.cons (.lst (SqL.of c1) c2) (.cons (.lst (SqL.of ?_) DpAll.strs) e1))))
    exact hidL_of ((Same.new hp).at_ (s5.at_ ((Same.new hp1).at_ q3))) (hf.nin (Same.refl _) hD)
end
end Kn

set_option Elab.async false
set_option linter.all false
set_option maxRecDepth 100000
set_option maxHeartbeats 4000000
namespace Kn
open PySem PySem.Spec PyProof.Rows L2
local macro_rules | `(tactic| walk_at "go1") => `(tactic| first
  | with_reducible refine s_seq ?_
  | with_reducible refine s_var rfl ?_
  | with_reducible refine s_c ?_
  | with_reducible refine s_cons ?_
  | with_reducible refine s_nil ?_
  | with_reducible refine s_asg ?_
  | with_reducible refine s_name ?_
  | with_reducible refine s_op ?_
  | with_reducible refine s_call ?_
  | with_reducible refine s_cb ?_
  | with_reducible refine s_ret ?_
  | with_reducible refine s_drop ?_
  | with_reducible refine s_next ?_
  | with_reducible refine s_ifs ?_
  | with_reducible refine s_test ?_
  | with_reducible refine s_tB ?_
  | with_reducible refine s_blP ?_
  | with_reducible refine s_intP ?_
  | with_reducible refine iteT ?_
  | with_reducible refine iteF ?_
  | with_reducible refine ite_not ?_
  | with_reducible refine s_and ?_
  | with_reducible refine s_or ?_
  | with_reducible refine s_not ?_
  | with_reducible refine s_andV ?_
  | with_reducible refine s_orV ?_
  | with_reducible refine s_notV ?_
  | with_reducible refine s_chain ?_
  | with_reducible refine s_sub ?_
  | with_reducible refine s_bm ?_
  | with_reducible refine s_sl ?_
  | with_reducible refine s_part ?_
  | with_reducible refine s_nop ?_
  | with_reducible refine s_make ?_
  | with_reducible refine s_un ?_
  | with_reducible refine s_ifE ?_
  | with_reducible refine s_dget ?_
  | with_reducible refine s_dget2 ?_
  | with_reducible refine s_dnew ?_
  | with_reducible refine s_ivals ?_
  | with_reducible refine s_brk ?_
  | with_reducible refine s_gcons ?_
  | with_reducible refine s_gnil ?_
  | with_reducible refine s_meth ?_
  | with_reducible refine s_rev ?_
  | with_reducible refine s_lc ?_
  | with_reducible refine s_rng1 ?_
  | with_reducible refine s_ilst ?_
  | with_reducible refine s_istr ?_
  | with_reducible refine s_for ?_
  | with_reducible refine s_yes ?_
  | with_reducible refine s_wipe rfl ?_
  | with_reducible refine s_kget ?_
  | with_reducible refine s_strP ?_
  | with_reducible refine s_fldS ?_
  | with_reducible refine s_fld ?_
  | with_reducible refine s_tup ?_
  | with_reducible refine s_lst ?_
  | with_reducible refine v_addI ?_
  | with_reducible refine v_subI ?_
  | with_reducible refine v_lt ?_
  | with_reducible refine v_le ?_
  | with_reducible refine v_gt ?_
  | with_reducible refine v_ge ?_
  | with_reducible refine v_eqI ?_
  | with_reducible refine v_eqS ?_
  | with_reducible refine v_neS ?_
  | with_reducible refine v_neI ?_)
local macro_rules | `(tactic| walk_at "go") => `(tactic| repeat walk_at "go1")

section
variable {w : World} {P : Program} {mg : Str → Option Value} {K : PySem.W.Frag} {base : Heap}
def sp_Lasked (K : PySem.W.Frag) : Sp := fun vs H Q _ => ∃ (y : Addr) (days : Int) (hs : List (Str × Str)) (ls rs : List PyData), vs = [.ref y] ∧ YearAt K H y days hs ls rs ∧ NmsOk hs ∧ ∀ f H', Same H H' → Dp K H' (.ref f) (dueD days hs ls rs) → Q (.ref f) H'
theorem use_lasked {K : PySem.W.Frag} {H : Hp} {Q : VK} {E : XK} {y : Addr} {days : Int} {hs : List (Str × Str)} {ls rs : List PyData} (h1 : YearAt K H y days hs ls rs) (h2 : NmsOk hs) (k : ∀ f H', Same H H' → Dp K H' (.ref f) (dueD days hs ls rs) → Q (.ref f) H') : sp_Lasked K [.ref y] H Q E := ⟨y, days, hs, ls, rs, rfl, h1, h2, k⟩
theorem nin2 {a f n : Addr} (h1 : a ≠ f) (h2 : a ≠ n) : a ∉ [f, n] := by simp [h1, h2]

theorem ok_Lasked (T : Tx P w K mg base) : DefOk P w K mg base 4 ("_law_asked", none) ["_law_year"] (sp_Lasked K) := by
  refine mkOk T.f_Lasked sc_Lasked (fun vs H Q E h => ?_) (fun _ _ _ _ _ _ us hl => match us, hl with | [_], _ => rfl) (fun cdv A outer s H vs Q E hr h => ?_)
  · obtain ⟨y, days, hs, ls, rs, rfl, hy, hns, k⟩ := h
    rfl
  · obtain ⟨y, days, hs, ls, rs, rfl, hy, hns, k⟩ := h
    refine ⟨_, (pss_cons (ps_set (i := 1) sc_Lasked.nd rfl (Or.inl rfl) (kme0 (pv 0) (ways_names (K := K) T) (hr.mono (by decide)) pB))
      (pss_cons (ps_set (i := 2) sc_Lasked.nd rfl (Or.inl rfl) (pe_lst (pa_cons (fldK K rfl (pv 0) rfl) (pa_cons (pe_callTy (listK K rfl) rfl T.n_list (by decide +kernel) (pa_cons (fldK K rfl (pv 0) rfl) pa_nil)) (pa_cons (pe_callTy (listK K rfl) rfl T.n_list (by decide +kernel) (pa_cons (fldK K rfl (pv 0) rfl) pa_nil)) (pa_cons (pe_callTy (listK K rfl) rfl T.n_list (by decide +kernel) (pa_cons (fldK K rfl (pv 0) rfl) pa_nil)) (pa_cons (pe_callTy (listK K rfl) rfl T.n_list (by decide +kernel) (pa_cons (pv 1) pa_nil)) pa_nil)))))))
      (pss_cons (ps_for (passes_of rfl) rfl (psqK K rfl (pe_callTy (listK K rfl) rfl T.n_list (by decide +kernel) (pa_cons (pv 1) pa_nil))) (pg_name (i := 3) sc_Lasked.nd rfl (Or.inl rfl)) (pss_cons (ps_set (i := 4) sc_Lasked.nd rfl (Or.inl rfl) (pe_lst (pa_cons (kme (pv 0) (ways_knots (K := K) T) (hr.mono (by decide)) pB (pa_cons (pv 3) pa_nil)) (pa_cons (kme (pv 0) (ways_under (K := K) T) (hr.mono (by decide)) pB (pa_cons (pv 3) pa_nil)) pa_nil))))
      (pss_cons (ps_expr (bmK K rfl PySem.F.plainAttrs_list PySem.F.slot_list_append PySem.F.type_list_append mt_append (pv 2) (pa_cons (pe_tup (pa_cons (kme (pv 0) (ways_above (K := K) T) (hr.mono (by decide)) pB (pa_cons (pv 3) pa_nil)) (pa_cons (pe_callTy (listK K rfl) rfl T.n_list (by decide +kernel) (pa_cons (pe_ix (ixK K rfl) (pv 4) pe_int (fun _ _ => rfl)) pa_nil)) (pa_cons (pe_callTy (listK K rfl) rfl T.n_list (by decide +kernel) (pa_cons (pe_ix (ixK K rfl) (pv 4) pe_int (fun _ _ => rfl)) pa_nil)) pa_nil)))) pa_nil)))
      (pss_cons (ps_expr (bmK K rfl PySem.F.plainAttrs_list PySem.F.slot_list_append PySem.F.type_list_append mt_append (pe_ix (ixK K rfl) (pv 4) pe_int (fun _ _ => rfl)) (pa_cons pe_str pa_nil)))
      (pss_one (ps_expr (bmK K rfl PySem.F.plainAttrs_list PySem.F.slot_list_append PySem.F.type_list_append mt_append (pe_ix (ixK K rfl) (pv 4) pe_int (fun _ _ => rfl)) (pa_cons pe_str pa_nil))))))))
      (pss_cons (ps_expr (bmK K rfl PySem.F.plainAttrs_list PySem.F.slot_list_append PySem.F.type_list_append mt_append (pv 1) (pa_cons pe_str pa_nil)))
      (pss_one (ps_ret (pv 2))))))), ?_⟩
    have hh := hy.hd
    walk_at "go"
    refine ym_names hy ?_
    walk_at "go"
    refine use_ynames hy fun nl H1 hnl s1 q1 => ?_
    obtain ⟨⟨dx, a, b, c, va, vb, vc, h1', h2', h3, h4', h5, h6', h7⟩, _⟩ := id hy
    have h1 := s1.at_ h1'
    have h2 := s1.at_ h2'
    have h4 := s1.at_ h4'
    have h6 := s1.at_ h6'
    walk_at "go"
    refine v_fld h1 T.c_Year T.a_Year_days (by rfl) ?_
    walk_at "go"
    refine v_fld h1 T.c_Year T.a_Year_heads (by rfl) ?_
    walk_at "go"
    refine v_listL (SqL.of h2) fun c1 hc1 => ?_
    have t1 := Same.new (o := .lst va) hc1
    walk_at "go"
    refine v_fld (t1.at_ h1) T.c_Year T.a_Year_limits (by rfl) ?_
    walk_at "go"
    refine v_listL (SqL.of (t1.at_ h4)) fun c2 hc2 => ?_
    have t2 := t1.trans (Same.new (o := .lst vb) hc2)
    walk_at "go"
    refine v_fld (t2.at_ h1) T.c_Year T.a_Year_rules (by rfl) ?_
    walk_at "go"
    refine v_listL (SqL.of (t2.at_ h6)) fun c3 hc3 => ?_
    have t3 := t2.trans (Same.new (o := .lst vc) hc3)
    walk_at "go"
    refine v_listL (SqL.of (t3.at_ q1)) fun c4 hc4 => ?_
    have t4 := t3.trans (Same.new (o := .lst ((hs.map (·.1)).map V.str)) hc4)
    walk_at "go"
    refine ⟨by show 5 ≤ sizeLine; decide, fun f hf => ?_⟩
    have t5 := t4.trans (Same.new (o := .lst [.int days, .ref c1, .ref c2, .ref c3, .ref c4]) hf)
    have hfH := free_of (s1.trans t4) hf
    have nlf : nl ≠ f := ne_of_none (t4.at_ q1) hf
    walk_at "go"
    refine s_isL ?_
    walk_at "go"
    refine v_listL (SqL.of (t5.at_ q1)) fun c5 hc5 => ?_
    have t6 := t5.trans (Same.new (o := .lst ((hs.map (·.1)).map V.str)) hc5)
    have s6 := s1.trans t6
    refine ⟨c5, rfl, ⟨_, SqL.of upd_same⟩, ?_⟩
    have b1 : (upd (upd (upd (upd (upd (upd H1 c1 (.lst va)) c2 (.lst vb)) c3 (.lst vc)) c4 (.lst ((hs.map (·.1)).map V.str))) f (.lst [.int days, .ref c1, .ref c2, .ref c3, .ref c4])) c5 (.lst ((hs.map (·.1)).map V.str))) c1 = some (.lst va) := (Same.new hc5).at_ ((Same.new hf).at_ ((Same.new hc4).at_ ((Same.new hc3).at_ ((Same.new hc2).at_ upd_same))))
    have b2 : (upd (upd (upd (upd (upd (upd H1 c1 (.lst va)) c2 (.lst vb)) c3 (.lst vc)) c4 (.lst ((hs.map (·.1)).map V.str))) f (.lst [.int days, .ref c1, .ref c2, .ref c3, .ref c4])) c5 (.lst ((hs.map (·.1)).map V.str))) c2 = some (.lst vb) := (Same.new hc5).at_ ((Same.new hf).at_ ((Same.new hc4).at_ ((Same.new hc3).at_ upd_same)))
    have b3 : (upd (upd (upd (upd (upd (upd H1 c1 (.lst va)) c2 (.lst vb)) c3 (.lst vc)) c4 (.lst ((hs.map (·.1)).map V.str))) f (.lst [.int days, .ref c1, .ref c2, .ref c3, .ref c4])) c5 (.lst ((hs.map (·.1)).map V.str))) c3 = some (.lst vc) := (Same.new hc5).at_ ((Same.new hf).at_ ((Same.new hc4).at_ upd_same))
    have b4 : (upd (upd (upd (upd (upd (upd H1 c1 (.lst va)) c2 (.lst vb)) c3 (.lst vc)) c4 (.lst ((hs.map (·.1)).map V.str))) f (.lst [.int days, .ref c1, .ref c2, .ref c3, .ref c4])) c5 (.lst ((hs.map (·.1)).map V.str))) c4 = some (.lst ((hs.map (·.1)).map V.str)) := (Same.new hc5).at_ ((Same.new hf).at_ upd_same)
    have b5 : (upd (upd (upd (upd (upd (upd H1 c1 (.lst va)) c2 (.lst vb)) c3 (.lst vc)) c4 (.lst ((hs.map (·.1)).map V.str))) f (.lst [.int days, .ref c1, .ref c2, .ref c3, .ref c4])) c5 (.lst ((hs.map (·.1)).map V.str))) c5 = some (.lst ((hs.map (·.1)).map V.str)) := upd_same
    have bf : (upd (upd (upd (upd (upd (upd H1 c1 (.lst va)) c2 (.lst vb)) c3 (.lst vc)) c4 (.lst ((hs.map (·.1)).map V.str))) f (.lst [.int days, .ref c1, .ref c2, .ref c3, .ref c4])) c5 (.lst ((hs.map (·.1)).map V.str))) f = some (.lst [.int days, .ref c1, .ref c2, .ref c3, .ref c4]) := (Same.new hc5).at_ upd_same
    have m1 : c1 ∉ [f, nl] := nin2 (ne_of_none ((Same.new hc4).at_ ((Same.new hc3).at_ ((Same.new hc2).at_ (upd_same (H := H1) (a := c1) (o := .lst va))))) hf) (ne_of_none q1 hc1).symm
    have m2 : c2 ∉ [f, nl] := nin2 (ne_of_none ((Same.new hc4).at_ ((Same.new hc3).at_ (upd_same (H := upd H1 c1 (.lst va)) (a := c2) (o := .lst vb)))) hf) (ne_of_none (t1.at_ q1) hc2).symm
    have m3 : c3 ∉ [f, nl] := nin2 (ne_of_none ((Same.new hc4).at_ (upd_same (H := upd (upd H1 c1 (.lst va)) c2 (.lst vb)) (a := c3) (o := .lst vc))) hf) (ne_of_none (t2.at_ q1) hc3).symm
    have m4 : c4 ∉ [f, nl] := nin2 (ne_of_none (upd_same (H := upd (upd (upd H1 c1 (.lst va)) c2 (.lst vb)) c3 (.lst vc)) (a := c4) (o := .lst ((hs.map (·.1)).map V.str))) hf) (ne_of_none (t3.at_ q1) hc4).symm
    have bq := t6.at_ q1
    have n5 : c5 ≠ f := (ne_of_none upd_same hc5).symm
    have n5' : c5 ≠ nl := (ne_of_none (t5.at_ q1) hc5).symm
    generalize upd (upd (upd (upd (upd (upd H1 c1 (.lst va)) c2 (.lst vb)) c3 (.lst vc)) c4 (.lst ((hs.map (·.1)).map V.str))) f (.lst [.int days, .ref c1, .ref c2, .ref c3, .ref c4])) c5 (.lst ((hs.map (·.1)).map V.str)) = H6 at *
    have sF : Same H (hidL [f, nl] H6) := same_hidL s6 fun x hx => by
      rcases (show x = f ∨ x = nl by simpa using hx) with rfl | rfl
      · exact hfH
      · exact hnl
    refine for_it (walk_list (xs := (hs.map (·.1)).map V.str)) (fun i σ H' => (∃ v3 v4, σ = [some (.ref y), some (.ref nl), some (.ref f), v3, v4]) ∧ Same H H' ∧ H' nl = some (.lst ((hs.map (·.1)).map V.str)) ∧ H' c5 = some (.lst ((hs.map (·.1)).map V.str)) ∧ ∃ vf, H' f = some (.lst vf) ∧ DpAll K (hidL [f, nl] H') vf ([.int days, .list (hs.map hD), .list ls, .list rs, strsD (hs.map (·.1))] ++ (hs.take i).map (allOne hs))) ?_ (fun _ _ _ _ h => SqL.of h.2.2.2.1) ?_ ?_
    · exact ⟨⟨_, _, rfl⟩, s6, bq, b5, _, bf, .cons (.int _) (.cons (.lst (SqL.of (hidL_of b1 m1)) (DpAll.same sF h3)) (.cons (.lst (SqL.of (hidL_of b2 m2)) (DpAll.same sF h5)) (.cons (.lst (SqL.of (hidL_of b3 m3)) (DpAll.same sF h7)) (.cons (.lst (SqL.of (hidL_of b4 m4)) DpAll.strs) .nil))))⟩
    · rintro i x σ G0 G0' hi ⟨⟨v3, v4, rfl⟩, g0, r1, r2, vf, r3, r4⟩ ⟨rfl, hx⟩
      rw [List.getElem?_map] at hx
      obtain ⟨n, hn, rfl⟩ := Option.map_eq_some_iff.mp hx
      rw [List.getElem?_map] at hn
      obtain ⟨pr, hpr, rfl⟩ := Option.map_eq_some_iff.mp hn
      have hprm := List.mem_of_getElem? hpr
      have hm : pr.1 ∈ hs.map (·.1) := List.mem_map.mpr ⟨pr, hprm, rfl⟩
      have hi8 : i < 8 := by
        have := (List.getElem?_eq_some_iff.mp hpr).1
        have := hh.le
        omega
      have hy0 := hy.same g0
      walk_at "go"
      refine ym_knots hy0 ?_
      walk_at "go"
      refine use_knots hy0 hns hm fun k1 G1 hk1 e1 w1 => ?_
      have hyA := hy0.same e1
      walk_at "go"
      refine ym_under hyA ?_
      walk_at "go"
      refine use_under hyA hns hm fun u1 G2 hu1 e2 w2 => ?_
      walk_at "go"
      refine ⟨by show 2 ≤ sizeLine; decide, fun sm hsm => ?_⟩
      have e3 := Same.new (o := .lst [.ref k1, .ref u1]) hsm
      have w3 : (upd G2 sm (.lst [.ref k1, .ref u1])) sm = some (.lst [.ref k1, .ref u1]) := upd_same
      have e13 := e1.trans (e2.trans e3)
      have kS := e3.at_ (e2.at_ w1)
      have uS := e3.at_ w2
      generalize upd G2 sm (.lst [.ref k1, .ref u1]) = G3 at *
      walk_at "go"
      refine ⟨.inl ⟨rfl, _, SqL.of (e13.at_ r3)⟩, ?_⟩
      walk_at "go"
      have hyB := hy0.same e13
      refine ym_above hyB ?_
      walk_at "go"
      refine use_above hyB hns hm fun G4 e4 => ?_
      rw [ho_upN hh.ok pr hprm]
      walk_at "go"
      refine v_ixL (SqL.of (e4.at_ w3)) (atI_nat (j := 0) rfl) ?_
      walk_at "go"
      refine v_listL (SqL.of (e4.at_ kS)) fun c6 hc6 => ?_
      have e5 := Same.new (o := .lst ((knotsN hs pr.1).map V.str)) hc6
      walk_at "go"
      refine v_ixL (SqL.of (e5.at_ (e4.at_ w3))) (atI_nat (j := 1) rfl) ?_
      walk_at "go"
      refine v_listL (SqL.of (e5.at_ (e4.at_ uS))) fun c7 hc7 => ?_
      have e6 := e5.trans (Same.new (o := .lst ((underN hs pr.1).map V.str)) hc7)
      walk_at "go"
      refine ⟨by show 3 ≤ sizeLine; decide, fun tp htp => ?_⟩
      have e7 := e6.trans (Same.new (o := .tup [.str pr.2, .ref c6, .ref c7]) htp)
      walk_at "go"
      have e17 := e13.trans (e4.trans e7)
      have e47 := e4.trans e7
      have z6 : (upd (upd (upd G4 c6 (.lst ((knotsN hs pr.1).map V.str))) c7 (.lst ((underN hs pr.1).map V.str))) tp (.tup [.str pr.2, .ref c6, .ref c7])) c6 = some (.lst ((knotsN hs pr.1).map V.str)) := (Same.new htp).at_ ((Same.new hc7).at_ upd_same)
      have z7 : (upd (upd (upd G4 c6 (.lst ((knotsN hs pr.1).map V.str))) c7 (.lst ((underN hs pr.1).map V.str))) tp (.tup [.str pr.2, .ref c6, .ref c7])) c7 = some (.lst ((underN hs pr.1).map V.str)) := (Same.new htp).at_ upd_same
      have zt : (upd (upd (upd G4 c6 (.lst ((knotsN hs pr.1).map V.str))) c7 (.lst ((underN hs pr.1).map V.str))) tp (.tup [.str pr.2, .ref c6, .ref c7])) tp = some (.tup [.str pr.2, .ref c6, .ref c7]) := upd_same
      have k6 : k1 ≠ c6 := ne_of_none (e4.at_ kS) hc6
      have k7 : k1 ≠ c7 := ne_of_none (e5.at_ (e4.at_ kS)) hc7
      have kt : k1 ≠ tp := ne_of_none (e6.at_ (e4.at_ kS)) htp
      have u6 : u1 ≠ c6 := ne_of_none (e4.at_ uS) hc6
      have u7 : u1 ≠ c7 := ne_of_none (e5.at_ (e4.at_ uS)) hc7
      have ut : u1 ≠ tp := ne_of_none (e6.at_ (e4.at_ uS)) htp
      have f6 : f ≠ c6 := ne_of_none ((e13.trans e4).at_ r3) hc6
      have f7 : f ≠ c7 := ne_of_none ((e13.trans (e4.trans e5)).at_ r3) hc7
      have ft : f ≠ tp := ne_of_none ((e13.trans (e4.trans e6)).at_ r3) htp
      have nl6 : nl ≠ c6 := ne_of_none ((e13.trans e4).at_ r1) hc6
      have nl7 : nl ≠ c7 := ne_of_none ((e13.trans (e4.trans e5)).at_ r1) hc7
      have nlt : nl ≠ tp := ne_of_none ((e13.trans (e4.trans e6)).at_ r1) htp
      generalize upd (upd (upd G4 c6 (.lst ((knotsN hs pr.1).map V.str))) c7 (.lst ((underN hs pr.1).map V.str))) tp (.tup [.str pr.2, .ref c6, .ref c7]) = G7 at *
      have fk : f ≠ k1 := ne_of_none r3 hk1
      have fu : f ≠ u1 := ne_of_none (e1.at_ r3) hu1
      have nk : nl ≠ k1 := ne_of_none r1 hk1
      have nu : nl ≠ u1 := ne_of_none (e1.at_ r1) hu1
      have ck : c5 ≠ k1 := ne_of_none r2 hk1
      have cu : c5 ≠ u1 := ne_of_none (e1.at_ r2) hu1
      have ku : k1 ≠ u1 := ne_of_none w1 hu1
      have smf : sm ≠ f := (ne_of_none ((e1.trans e2).at_ r3) hsm).symm
      have smk : sm ≠ k1 := (ne_of_none (e2.at_ w1) hsm).symm
      have smu : sm ≠ u1 := (ne_of_none w2 hsm).symm
      refine v_app (e17.at_ r3) ?_ ?_
      · rw [DpAll.len r4, List.length_append, List.length_map]
        exact sz_lt (by have := List.length_take_le i hs; show 5 + _ ≤ _; omega)
      walk_at "go"
      refine v_ixL (SqL.of (show (upd G7 f (.lst (vf ++ [.ref tp]))) sm = _ from by rw [upd_ne smf]; exact e47.at_ w3)) (atI_nat (j := 0) rfl) ?_
      have x1 : (upd G7 f (.lst (vf ++ [.ref tp]))) k1 = some (.lst ((knotsN hs pr.1).map V.str)) := by rw [upd_ne fk.symm]; exact e47.at_ kS
      refine ⟨.inl ⟨rfl, _, SqL.of x1⟩, ?_⟩
      walk_at "go"
      refine v_app x1 (by rw [List.length_map]; exact sz_lt (Nat.le_trans knotsF_len (by have := hh.le; omega))) ?_
      walk_at "go"
      refine v_ixL (SqL.of (show (upd (upd G7 f (.lst (vf ++ [.ref tp]))) k1 _) sm = _ from by rw [upd_ne smk, upd_ne smf]; exact e47.at_ w3)) (atI_nat (j := 1) rfl) ?_
      have x2 : (upd (upd G7 f (.lst (vf ++ [.ref tp]))) k1 (.lst ((knotsN hs pr.1).map V.str ++ [.str "other"]))) u1 = some (.lst ((underN hs pr.1).map V.str)) := by rw [upd_ne ku.symm, upd_ne fu.symm]; exact e47.at_ uS
      refine ⟨.inl ⟨rfl, _, SqL.of x2⟩, ?_⟩
      walk_at "go"
      refine v_app x2 (by rw [List.length_map]; exact sz_lt (Nat.le_trans (List.length_filter_le _ _) (by rw [List.length_map]; have := hh.le; omega))) ?_
      have hfk : H k1 = none := free_of g0 hk1
      have hfu : H u1 = none := free_of (g0.trans e1) hu1
      have sZ : Same (hidL [f, nl] G0') (hidL [f, nl] (upd (upd (upd G7 f (.lst (vf ++ [.ref tp]))) k1 (.lst ((knotsN hs pr.1).map V.str ++ [.str "other"]))) u1 (.lst ((underN hs pr.1).map V.str ++ [.str "other"])))) := fun bb oo ee => by
        obtain ⟨y1, y2⟩ := hidL_at ee
        refine hidL_of ?_ y2
        have z1 : bb ≠ f := fun q => y2 (by rw [q]; exact List.mem_cons_self ..)
        rw [upd_ne (ne_of_none (e1.at_ y1) hu1), upd_ne (ne_of_none y1 hk1), upd_ne z1]
        exact e17.at_ y1
      have sZ2 : Same H (upd (upd (upd G7 f (.lst (vf ++ [.ref tp]))) k1 (.lst ((knotsN hs pr.1).map V.str ++ [.str "other"]))) u1 (.lst ((underN hs pr.1).map V.str ++ [.str "other"]))) := (((g0.trans e17).mut hfH).mut hfk).mut hfu
      refine ⟨⟨_, _, rfl⟩, sZ2, ?_, ?_, vf ++ [.ref tp], ?_, ?_⟩
      · rw [upd_ne nu, upd_ne nk, upd_ne nlf]; exact e17.at_ r1
      · rw [upd_ne cu, upd_ne ck, upd_ne n5]; exact e17.at_ r2
      · rw [upd_ne fu, upd_ne fk]; exact upd_same
      · rw [List.take_add_one, hpr, List.map_append, ← List.append_assoc]
        refine DpAll.snoc (DpAll.same sZ r4) (.tup (SqT.of (hidL_of ?_ (nin2 ft.symm nlt.symm))) (.cons (.str _) (.cons (.lst (SqL.of (hidL_of ?_ (nin2 f6.symm nl6.symm))) DpAll.strs) (.cons (.lst (SqL.of (hidL_of ?_ (nin2 f7.symm nl7.symm))) DpAll.strs) .nil))))
        · rw [upd_ne ut.symm, upd_ne kt.symm, upd_ne ft.symm]; exact zt
        · rw [upd_ne u6.symm, upd_ne k6.symm, upd_ne f6.symm]; exact z6
        · rw [upd_ne u7.symm, upd_ne k7.symm, upd_ne f7.symm]; exact z7
    · rintro σ G0 ⟨⟨v3, v4, rfl⟩, g0, r1, r2, vf, r3, r4⟩
      rw [List.length_map, List.length_map, List.take_length] at r4
      walk_at "go"
      refine ⟨.inl ⟨rfl, _, SqL.of r1⟩, ?_⟩
      walk_at "go"
      refine v_app r1 (by rw [List.length_map, List.length_map]; exact sz_lt (by have := hh.le; omega)) ?_
      walk_at "go"
      refine k f _ (g0.mut hnl) (.lst (SqL.of (by rw [upd_ne nlf.symm]; exact r3)) ?_)
      exact DpAll.same ((hidL_upd (by simp)).trans hidL_le) r4
end
end Kn

set_option Elab.async false
set_option linter.all false
set_option maxRecDepth 100000
set_option maxHeartbeats 4000000
namespace Kn
open PySem PySem.Spec PyProof.Rows L2
local macro_rules | `(tactic| walk_at "go1") => `(tactic| first
  | with_reducible refine s_seq ?_
  | with_reducible refine s_var rfl ?_
  | with_reducible refine s_c ?_
  | with_reducible refine s_cons ?_
  | with_reducible refine s_nil ?_
  | with_reducible refine s_asg ?_
  | with_reducible refine s_name ?_
  | with_reducible refine s_op ?_
  | with_reducible refine s_call ?_
  | with_reducible refine s_cb ?_
  | with_reducible refine s_ret ?_
  | with_reducible refine s_drop ?_
  | with_reducible refine s_next ?_
  | with_reducible refine s_ifs ?_
  | with_reducible refine s_test ?_
  | with_reducible refine s_tB ?_
  | with_reducible refine s_blP ?_
  | with_reducible refine s_intP ?_
  | with_reducible refine iteT ?_
  | with_reducible refine iteF ?_
  | with_reducible refine ite_not ?_
  | with_reducible refine s_and ?_
  | with_reducible refine s_or ?_
  | with_reducible refine s_not ?_
  | with_reducible refine s_andV ?_
  | with_reducible refine s_orV ?_
  | with_reducible refine s_notV ?_
  | with_reducible refine s_chain ?_
  | with_reducible refine s_sub ?_
  | with_reducible refine s_bm ?_
  | with_reducible refine s_sl ?_
  | with_reducible refine s_part ?_
  | with_reducible refine s_nop ?_
  | with_reducible refine s_make ?_
  | with_reducible refine s_un ?_
  | with_reducible refine s_ifE ?_
  | with_reducible refine s_dget ?_
  | with_reducible refine s_dget2 ?_
  | with_reducible refine s_dnew ?_
  | with_reducible refine s_ivals ?_
  | with_reducible refine s_brk ?_
  | with_reducible refine s_gcons ?_
  | with_reducible refine s_gnil ?_
  | with_reducible refine s_meth ?_
  | with_reducible refine s_rev ?_
  | with_reducible refine s_lc ?_
  | with_reducible refine s_rng1 ?_
  | with_reducible refine s_ilst ?_
  | with_reducible refine s_istr ?_
  | with_reducible refine s_for ?_
  | with_reducible refine s_yes ?_
  | with_reducible refine s_wipe rfl ?_
  | with_reducible refine s_kget ?_
  | with_reducible refine s_strP ?_
  | with_reducible refine s_fldS ?_
  | with_reducible refine s_fld ?_
  | with_reducible refine s_tup ?_
  | with_reducible refine s_lst ?_
  | with_reducible refine v_addI ?_
  | with_reducible refine v_subI ?_
  | with_reducible refine v_lt ?_
  | with_reducible refine v_le ?_
  | with_reducible refine v_gt ?_
  | with_reducible refine v_ge ?_
  | with_reducible refine v_eqI ?_
  | with_reducible refine v_eqS ?_
  | with_reducible refine v_neS ?_
  | with_reducible refine v_neI ?_)
local macro_rules | `(tactic| walk_at "go") => `(tactic| repeat walk_at "go1")

section
variable {w : World} {P : Program} {mg : Str → Option Value} {K : PySem.W.Frag} {base : Heap}
theorem dpall_app {K : PySem.W.Frag} {H : Hp} : ∀ {as : List PyData} {vs us : List V} {bs : List PyData}, DpAll K H vs as → DpAll K H us bs → DpAll K H (vs ++ us) (as ++ bs)
  | [], vs, _, _, h1, h2 => by
    obtain rfl := dpall_nil h1
    exact h2
  | a :: r, vs, _, _, h1, h2 => by
    obtain ⟨x, r', rfl, h3, h4⟩ := dpall_cons h1
    exact .cons h3 (dpall_app h4 h2)
theorem dpall_drop {K : PySem.W.Frag} {H : Hp} : ∀ {as : List PyData} {vs : List V} (n : Nat), DpAll K H vs as → DpAll K H (vs.drop n) (as.drop n)
  | as, vs, 0, h => by simpa using h
  | [], vs, n + 1, h => by
    obtain rfl := dpall_nil h
    exact .nil
  | a :: r, vs, n + 1, h => by
    obtain ⟨x, r', rfl, h3, h4⟩ := dpall_cons h
    exact dpall_drop n h4
theorem dpall_take {K : PySem.W.Frag} {H : Hp} : ∀ {as : List PyData} {vs : List V} (n : Nat), DpAll K H vs as → DpAll K H (vs.take n) (as.take n)
  | as, vs, 0, h => .nil
  | [], vs, n + 1, h => by
    obtain rfl := dpall_nil h
    exact .nil
  | a :: r, vs, n + 1, h => by
    obtain ⟨x, r', rfl, h3, h4⟩ := dpall_cons h
    exact .cons h3 (dpall_take n h4)
theorem cut_last {xs : List V} : cutV xs none (some (-1)) = xs.take (xs.length - 1) := by
  unfold cutV
  have e : HT.sIx xs.length xs.length (some (-1)) = xs.length - 1 := by
    show (if (-1 : Int) < 0 then ((-1 : Int) + (xs.length : Int)).toNat else min (-1 : Int).toNat xs.length) = _
    rw [if_pos (by decide)]
    omega
  rw [e]
  show (xs.drop 0).take (xs.length - 1 - 0) = _
  rw [List.drop_zero, Nat.sub_zero]
def flatH (hs : List (Str × Str)) : List (Str × Str) := hs.map fun p => (p.1, "")
theorem flat_names {hs : List (Str × Str)} : (flatH hs).map (·.1) = hs.map (·.1) := by
  unfold flatH
  rw [List.map_map]
  rfl
theorem flat_ho : ∀ {seen : List Str} {hs : List (Str × Str)}, HO_ seen hs → HO_ seen (flatH hs)
  | _, [], _ => trivial
  | seen, p :: r, h => ⟨h.1, h.2.1, .inl rfl, flat_ho h.2.2.2⟩
theorem flat_heads {hs : List (Str × Str)} (h : Heads hs) : Heads (flatH hs) := ⟨fun e => h.ne (List.map_eq_nil_iff.mp e), by unfold flatH; rw [List.length_map]; exact h.le, flat_ho h.ok⟩
/-- what is true of the parts of a year -/
structure PF (days : Int) (hs : List (Str × Str)) (ls rs : List LimT) : Prop where
  hh : Heads hs
  nm : NmsOk hs
  d1 : 1 ≤ days
  d2 : days ≤ 30
  l6 : ls.length ≤ 6
  lr : ∀ x ∈ ls, LimR (hs.map (·.1)) days x
  r4 : rs.length ≤ 4
  rr : ∀ x ∈ rs, RuleR (hs.map (·.1)) days x
  su : ∀ m, ∀ s ∈ sumsOf (rs.take m), s.2.1 ≤ s.2.2
theorem Parts.pf {K : PySem.W.Frag} {H : Hp} {pl h l r : Addr} {days : Int} {hs : List (Str × Str)} {ls rs : List LimT} (p : Parts K H pl h l r days hs ls rs) : PF days hs ls rs := ⟨p.hh, p.nm, p.d1, p.d2, p.l6, p.lr, p.r4, p.rr, p.su⟩
theorem PF.parts {K : PySem.W.Frag} {H : Hp} {pl h l r : Addr} {days : Int} {hs : List (Str × Str)} {ls rs : List LimT} (f : PF days hs ls rs) (h1 : H pl = some (.lst [.int days, .ref h, .ref l, .ref r])) (h2 : ∃ va, H h = some (.lst va) ∧ DpAll K H va (hs.map hD)) (h3 : ∃ vb, H l = some (.lst vb) ∧ DpAll K H vb (ls.map lD)) (h4 : ∃ vc, H r = some (.lst vc) ∧ DpAll K H vc (rs.map lD)) : Parts K H pl h l r days hs ls rs := ⟨h1, h2, h3, h4, f.hh, f.nm, f.d1, f.d2, f.l6, f.lr, f.r4, f.rr, f.su⟩
theorem PF.more {days : Int} {hs : List (Str × Str)} {ls rs : List LimT} (f : PF days hs ls rs) (h : days < 30) : PF (days + 1) hs ls rs :=
  ⟨f.hh, f.nm, by have := f.d1; omega, by omega, f.l6, fun x hx => by obtain ⟨a, ⟨b, c⟩, ⟨d, e⟩, i⟩ := f.lr x hx; exact ⟨a, ⟨b, by omega⟩, ⟨d, by omega⟩, i⟩, f.r4, fun x hx => by obtain ⟨a, b, c, d, e⟩ := f.rr x hx; exact ⟨a, b, c, d, by omega⟩, f.su⟩
theorem PF.flat {days : Int} {hs : List (Str × Str)} {ls rs : List LimT} (f : PF days hs ls rs) : PF days (flatH hs) ls rs :=
  ⟨flat_heads f.hh, fun s hs' => f.nm s (by rw [flat_names] at hs'; exact hs'), f.d1, f.d2, f.l6, fun x hx => by rw [flat_names]; exact f.lr x hx, f.r4, fun x hx => by rw [flat_names]; exact f.rr x hx, f.su⟩
theorem PF.turn {days : Int} {hs : List (Str × Str)} {ls rs : List LimT} (f : PF days hs ls rs) : PF days hs (ls.drop 1 ++ ls.take 1) rs :=
  ⟨f.hh, f.nm, f.d1, f.d2, by have := f.l6; rw [List.length_append, List.length_drop, List.length_take]; omega, fun x hx => f.lr x (by
    rcases List.mem_append.mp hx with hx | hx
    · exact List.mem_of_mem_drop hx
    · exact List.mem_of_mem_take hx), f.r4, f.rr, f.su⟩
theorem PF.less {days : Int} {hs : List (Str × Str)} {ls rs : List LimT} (f : PF days hs ls rs) : PF days hs ls (rs.take (rs.length - 1)) :=
  ⟨f.hh, f.nm, f.d1, f.d2, f.l6, f.lr, by have := f.r4; rw [List.length_take]; omega, fun x hx => f.rr x (List.mem_of_mem_take hx), fun m s hs' => by rw [List.take_take] at hs'; exact f.su _ s hs'⟩
def sp_Lnear (K : PySem.W.Frag) : Sp := fun vs H Q _ => ∃ (w pl h l r : Addr) (days : Int) (hs : List (Str × Str)) (ls rs : List LimT), vs = [.ref w, .ref pl] ∧ WellAt H w ∧ Parts K (hid w H) pl h l r days hs ls rs ∧
  ∀ (q h2 l2 r2 : Addr) (days2 : Int) (hs2 : List (Str × Str)) (ls2 rs2 : List LimT) (H' : Hp), Dr w H H' → H q = none → (h2 = h ∨ H h2 = none) ∧ (l2 = l ∨ H l2 = none) ∧ (r2 = r ∨ H r2 = none) → Parts K (hid w H') q h2 l2 r2 days2 hs2 ls2 rs2 → Q (.ref q) H'
theorem use_lnear {K : PySem.W.Frag} {H : Hp} {Q : VK} {E : XK} {w pl h l r : Addr} {days : Int} {hs : List (Str × Str)} {ls rs : List LimT} (hw : WellAt H w) (hP : Parts K (hid w H) pl h l r days hs ls rs)
  (k : ∀ (q h2 l2 r2 : Addr) (days2 : Int) (hs2 : List (Str × Str)) (ls2 rs2 : List LimT) (H' : Hp), Dr w H H' → H q = none → (h2 = h ∨ H h2 = none) ∧ (l2 = l ∨ H l2 = none) ∧ (r2 = r ∨ H r2 = none) → Parts K (hid w H') q h2 l2 r2 days2 hs2 ls2 rs2 → Q (.ref q) H') : sp_Lnear K [.ref w, .ref pl] H Q E := ⟨w, pl, h, l, r, days, hs, ls, rs, rfl, hw, hP, k⟩

theorem ok_Lnear (T : Tx P w K mg base) : DefOk P w K mg base 2 ("_law_near", none) ["_law_well_here", "_law_parts_here"] (sp_Lnear K) := by
  refine mkOk T.f_Lnear sc_Lnear (fun vs H Q E h => ?_) (fun _ _ _ _ _ _ us hl => match us, hl with | [_, _], _ => rfl) (fun cdv A outer s H vs Q E hr h => ?_)
  · obtain ⟨w0, pl, h, l, r, days, hs, ls, rs, rfl, hw, hP, k⟩ := h
    rfl
  · obtain ⟨w0, pl, h, l, r, days, hs, ls, rs, rfl, hw, hP, k⟩ := h
    refine ⟨_, (pss_cons (ps_set (i := 2) sc_Lnear.nd rfl (Or.inl rfl) (pe_callTy (listK K rfl) rfl T.n_list (by decide +kernel) (pa_cons (pv 1) pa_nil)))
      (pss_cons (ps_set (i := 3) sc_Lnear.nd rfl (Or.inl rfl) (kc (ok_Ldraw (K := K) T) T.g__law_draw (hr.mono (by decide)) pB (pa_cons (pv 0) (pa_cons pe_int pa_nil))))
      (pss_cons (ps_setLc (i := 4) (own := [("_law_name_here", 5), ("_law_above", 6)]) rfl sc_Lnear.nd rfl rfl (sw_true rfl rfl rfl (by decide +kernel)) (psqK K rfl (pe_ix (ixK K rfl) (pv 1) pe_int (fun _ _ => rfl))) (blkOk_by (N := nm_Lnear) (sc := defScope s_Lnear) (by decide +kernel)) (fun _ _ _ _ _ => (gtK (n := 2) K rfl rfl (pgs_cons (pg_name (i := 5) sc_Lnear.nd rfl (Or.inl rfl)) (pgs_cons (pg_name (i := 6) sc_Lnear.nd rfl (Or.inl rfl)) pgs_nil)))) (fun _ _ _ _ _ => pts_nil) (fun _ _ _ _ _ => (pv 5)))
      (pss_cons (ps_if (PW.pt (pw_and (pt_cmpR (eqK K rfl hr) (pv 3) pe_int (nomark _)) (pw_and1 (pt_cmpR kLt (pe_ix (ixK K rfl) (pv 1) pe_int (fun _ _ => rfl)) pe_int (nomark _))))) (pss_one (ps_asg (pe_op kAdd (pe_ix (ixK K rfl) (pv 1) pe_int (fun _ _ => rfl)) pe_int) (pg_sub (pv 2) pe_int (kSet hr)))) (pss_one (ps_if (pt_cmpR (eqK K rfl hr) (pv 3) pe_int (nomark _)) (pss_one (ps_asg (pe_lc (own := [("_law_name_here", 5)]) rfl sc_Lnear.nd (psqK K rfl (pv 4)) (blkOk_by (N := nm_Lnear) (sc := defScope s_Lnear) (by decide +kernel)) (fun _ _ _ _ _ => (pg_name (i := 5) sc_Lnear.nd rfl (Or.inl rfl))) (fun _ _ _ _ _ => pts_nil) (fun _ _ _ _ _ => (pe_tup (pa_cons (pv 5) (pa_cons pe_str pa_nil))))) (pg_sub (pv 2) pe_int (kSet hr)))) (pss_one (ps_if (pt_cmpR (eqK K rfl hr) (pv 3) pe_int (nomark _)) (pss_one (ps_asg (pe_op kAdd (pe_slice (slK K rfl) (pe_ix (ixK K rfl) (pv 1) pe_int (fun _ _ => rfl)) (po_some pe_int) po_none) (pe_slice (slK K rfl) (pe_ix (ixK K rfl) (pv 1) pe_int (fun _ _ => rfl)) po_none (po_some pe_int))) (pg_sub (pv 2) pe_int (kSet hr)))) (pss_one (ps_asg (pe_slice (slK K rfl) (pe_ix (ixK K rfl) (pv 1) pe_int (fun _ _ => rfl)) po_none (po_some (pe_un un_neg pe_int))) (pg_sub (pv 2) pe_int (kSet hr)))))))))
      (pss_one (ps_ret (pv 2))))))), ?_⟩
    have f := hP.pf
    walk_at "go"
    refine v_listL (SqL.of (hid_at hP.at_).1) fun q hq => ?_
    have qw : q ≠ w0 := Dr.ne hw hq
    have d0 := (Dr.refl hw).new (o := .lst [.int days, .ref h, .ref l, .ref r]) hq
    have q0 : (upd H q (.lst [.int days, .ref h, .ref l, .ref r])) q = some (.lst [.int days, .ref h, .ref l, .ref r]) := upd_same
    walk_at "go"
    refine use_draw (n := 4) d0.well (by decide) (by decide) fun lot H1 hr0 hr1 d1 => ?_
    have d2 := d0.trans d1
    have q1 := d1.but _ _ qw q0
    have sP : Same (hid w0 H) (hid w0 H1) := hid_same d2.but
    have P1 := hP.same sP
    obtain ⟨va, a1, a2⟩ := P1.ah
    obtain ⟨vb, b1, b2⟩ := P1.al
    obtain ⟨vc, c1, c2⟩ := P1.ar
    have lh : ∀ {z : Addr} {o : HO}, hid w0 H1 z = some o → H1 z = some o := fun e => (hid_at e).1
    walk_at "go"
    refine s_isL ?_
    walk_at "go"
    refine v_ixL (SqL.of (lh P1.at_)) (atI_nat (j := 1) rfl) ?_
    have hda : DpAll K H1 va (hs.map hD) := DpAll.same hid_le a2
    have hh := f.hh
    refine ⟨h, rfl, ⟨_, SqL.of (lh a1)⟩, fun D hDD => lc_it (walk_list (xs := va)) (fun i H' => Same H1 H' ∧ H' D = some (.lst (((hs.take i).map (·.1)).map V.str))) ?_ (fun _ _ _ h => SqL.of (h.1.at_ (lh a1))) ?_ ?_⟩
    · exact ⟨Same.new hDD, upd_same⟩
    · rintro i x H2 H2' hi ⟨s3, q3⟩ ⟨rfl, hx⟩
      obtain ⟨pr, t, hpr, rfl, ht⟩ := heads_at (DpAll.same s3 hda) hx
      refine s_gsT ht rfl ?_
      walk_at "go"
      refine ⟨_, q3, ?_, s3.mut hDD, ?_⟩
      · rw [List.length_map, List.length_map]
        exact Nat.lt_of_le_of_lt (List.length_take_le' _ _) (Nat.lt_of_le_of_lt hh.le (by decide))
      · rw [upd_same, List.take_add_one, hpr, List.map_append, List.map_append]
        rfl
    rintro H3 ⟨s3, q3⟩
    rw [DpAll.len hda, List.length_map, List.take_length] at q3
    have P3 := P1.same (hid_same s3.but)
    have q2 := s3.at_ q1
    have d3 : Dr w0 H H3 := d2.trans ⟨s3.but, by obtain ⟨x, y, z, e⟩ := d2.well; exact ⟨x, y, z, s3.at_ e⟩⟩
    obtain ⟨va, a1, a2⟩ := P3.ah
    obtain ⟨vb, b1, b2⟩ := P3.al
    obtain ⟨vc, c1, c2⟩ := P3.ar
    have lh : ∀ {z : Addr} {o : HO}, hid w0 H3 z = some o → H3 z = some o := fun e => (hid_at e).1
    have qn : ∀ {z : Addr} {o : HO}, hid w0 H z = some o → z ≠ q := fun e z => by rw [z] at e; rw [(hid_at e).1] at hq; cases hq
    have nl : l ≠ q := by
      obtain ⟨_, e, _⟩ := hP.al
      exact qn e
    have nh : h ≠ q := by
      obtain ⟨_, e, _⟩ := hP.ah
      exact qn e
    have nr : r ≠ q := by
      obtain ⟨_, e, _⟩ := hP.ar
      exact qn e
    -- behind one more place is made and the list q set
    have fin : ∀ {H4 : Hp} {ys : List V}, Same H3 H4 → Dr w0 H H4 → Dr w0 H (upd H4 q (.lst ys)) ∧ SameT (hid w0 H3) (hid w0 (upd H4 q (.lst ys))) ∧ (hid w0 (upd H4 q (.lst ys))) q = some (.lst ys) ∧ ∀ {z : Addr} {o : HO}, z ≠ q → hid w0 H4 z = some o → hid w0 (upd H4 q (.lst ys)) z = some o := fun {H4 ys} s d => by
      refine ⟨d.mut hw hq, (hid_same s.but).sameT.trans (hid_sameT (SameT.upd (s.at_ q2))), hid_of upd_same qw, fun {z o} n e => ?_⟩
      obtain ⟨e1, e2⟩ := hid_at e
      exact hid_of (by rw [upd_ne n]; exact e1) e2
    have d4 : ∀ {H4 : Hp}, Same H3 H4 → Dr w0 H H4 := fun {H4} s => d3.trans ⟨s.but, by obtain ⟨x, y, z, e⟩ := d3.well; exact ⟨x, y, z, s.at_ e⟩⟩
    have less : ∀ {H4 : Hp} {p : Addr}, Same H3 H4 → H4 p = some (.lst (vc.take (vc.length - 1))) → H3 p = none → Q (.ref q) (upd H4 q (.lst [.int days, .ref h, .ref l, .ref p])) := fun {H4 p} s4 e np => by
      obtain ⟨F1, F2, F3, F4⟩ := fin (ys := [.int days, .ref h, .ref l, .ref p]) s4 (d4 s4)
      have pw : p ≠ w0 := Dr.ne d3.well np
      have pq : p ≠ q := (ne_of_none q2 np).symm
      have hs4 := hid_same (w := w0) s4.but
      refine k q h l p days hs ls (rs.take (rs.length - 1)) _ F1 hq ⟨.inl rfl, .inl rfl, .inr (d3.free hw np)⟩ (f.less.parts F3 ⟨va, F4 nh (hs4.at_ a1), DpAll.sameT F2 a2 (map_noL fun _ => hD_noL)⟩ ⟨vb, F4 nl (hs4.at_ b1), DpAll.sameT F2 b2 (map_noL fun _ => lD_noL)⟩ ⟨_, F4 pq (hid_of e pw), ?_⟩)
      rw [List.map_take, DpAll.len c2, List.length_map]
      exact dpall_take _ (DpAll.sameT F2 c2 (map_noL fun _ => lD_noL))
    walk_at "go"
    have elseB : ∀ (U : V → Hp → Prop), True := fun _ => trivial
    refine it2 (fun e0 => ?_) (fun e0 => ?_)
    · walk_at "go"
      refine v_ixL (SqL.of (lh P3.at_)) (atI_nat (j := 0) rfl) ?_
      walk_at "go"
      refine it2 (fun hlt => ?_) (fun hlt => ?_)
      · walk_at "go"
        refine v_ixL (SqL.of (lh P3.at_)) (atI_nat (j := 0) rfl) ?_
        walk_at "go"
        refine v_set q2 (j := 0) rfl ?_
        walk_at "go"
        obtain ⟨F1, F2, F3, F4⟩ := fin (ys := [.int (days + 1), .ref h, .ref l, .ref r]) (Same.refl _) d3
        exact k q h l r (days + 1) hs ls rs _ F1 hq ⟨.inl rfl, .inl rfl, .inl rfl⟩ ((f.more hlt).parts F3 ⟨va, F4 nh a1, DpAll.sameT F2 a2 (map_noL fun _ => hD_noL)⟩ ⟨vb, F4 nl b1, DpAll.sameT F2 b2 (map_noL fun _ => lD_noL)⟩ ⟨vc, F4 nr c1, DpAll.sameT F2 c2 (map_noL fun _ => lD_noL)⟩)
      · subst e0
        walk_at "go"
        refine itF (by decide) ?_
        walk_at "go"
        refine itF (by decide) ?_
        walk_at "go"
        refine v_ixL (SqL.of (lh P3.at_)) (atI_nat (j := 3) rfl) ?_
        walk_at "go"
        refine ⟨1, rfl, ?_⟩
        walk_at "go"
        refine .inl ⟨r, _, rfl, SqL.of (lh c1), fun p hp => ?_⟩
        rw [cut_last]
        have sp := Same.new (o := .lst (vc.take (vc.length - 1))) hp
        walk_at "go"
        refine v_set (sp.at_ q2) (j := 3) rfl ?_
        walk_at "go"
        exact less sp upd_same hp
    · walk_at "go"
      refine it2 (fun e1 => ?_) (fun e1 => ?_)
      · walk_at "go"
        refine s_isL ?_
        walk_at "go"
        refine ⟨D, rfl, ⟨_, SqL.of q3⟩, fun D2 hD2 => lc_it (walk_list (xs := (hs.map (·.1)).map V.str)) (fun i H' => Same H3 H' ∧ ∃ vx, H' D2 = some (.lst vx) ∧ DpAll K H' vx ((flatH (hs.take i)).map hD)) ?_ (fun _ _ _ h => SqL.of (h.1.at_ q3)) ?_ ?_⟩
        · exact ⟨Same.new hD2, [], upd_same, .nil⟩
        · rintro i x H4 H4' hi ⟨s4, vx, w1, w2⟩ ⟨rfl, hx⟩
          rw [List.getElem?_map] at hx
          obtain ⟨n, hn, rfl⟩ := Option.map_eq_some_iff.mp hx
          rw [List.getElem?_map] at hn
          obtain ⟨pr, hpr, rfl⟩ := Option.map_eq_some_iff.mp hn
          walk_at "go"
          refine ⟨by show 2 ≤ sizeLine; decide, fun tp htp => ?_⟩
          have s5 := Same.new (o := .tup [.str pr.1, .str ("" : Str)]) htp
          have Dt : D2 ≠ tp := ne_of_none w1 htp
          refine ⟨vx, s5.at_ w1, ?_, (s4.trans s5).mut hD2, vx ++ [.ref tp], upd_same, ?_⟩
          · rw [DpAll.len w2, List.length_map]
            unfold flatH
            rw [List.length_map]
            exact Nat.lt_of_le_of_lt (List.length_take_le' _ _) (sz_lt (by have := hh.le; omega))
          · have sT := s5.sameT.trans (SameT.upd (ys := vx ++ [.ref tp]) (s5.at_ w1))
            have e : (flatH (hs.take (i + 1))).map hD = (flatH (hs.take i)).map hD ++ [hD (pr.1, "")] := by
              unfold flatH
              rw [List.take_add_one, hpr, List.map_append, List.map_append]
              rfl
            rw [e]
            refine DpAll.snoc (DpAll.sameT sT w2 (map_noL fun _ => hD_noL)) (.tup (SqT.of ?_) (.cons (.str _) (.cons (.str _) .nil)))
            rw [upd_ne Dt.symm]
            exact upd_same
        rintro H4 ⟨s4, vx, w1, w2⟩
        rw [List.take_of_length_le (by simp)] at w2
        walk_at "go"
        refine v_set (s4.at_ q2) (j := 1) rfl ?_
        walk_at "go"
        obtain ⟨F1, F2, F3, F4⟩ := fin (ys := [.int days, .ref D2, .ref l, .ref r]) s4 (d4 s4)
        have Dw : D2 ≠ w0 := Dr.ne d3.well hD2
        have Dq : D2 ≠ q := (ne_of_none q2 hD2).symm
        have hs4 := hid_same (w := w0) s4.but
        have sX : SameT H4 (hid w0 (upd H4 q (.lst [.int days, .ref D2, .ref l, .ref r]))) := fun z o e n => by
          have nz : z ≠ w0 := fun e2 => by
            obtain ⟨x, y, zz, e3⟩ := (d4 s4).well
            rw [e2, e3] at e
            injection e with e
            exact n _ e.symm
          exact hid_of (SameT.upd (s4.at_ q2) z o e n) nz
        exact k q D2 l r days (flatH hs) ls rs _ F1 hq ⟨.inr (d3.free hw hD2), .inl rfl, .inl rfl⟩ (f.flat.parts F3 ⟨vx, F4 Dq (hid_of w1 Dw), DpAll.sameT sX w2 (map_noL fun _ => hD_noL)⟩ ⟨vb, F4 nl (hs4.at_ b1), DpAll.sameT F2 b2 (map_noL fun _ => lD_noL)⟩ ⟨vc, F4 nr (hs4.at_ c1), DpAll.sameT F2 c2 (map_noL fun _ => lD_noL)⟩)
      · walk_at "go"
        refine it2 (fun e2 => ?_) (fun e2 => ?_)
        · walk_at "go"
          refine v_ixL (SqL.of (lh P3.at_)) (atI_nat (j := 2) rfl) ?_
          walk_at "go"
          refine .inl ⟨l, _, rfl, SqL.of (lh b1), fun p hp => ?_⟩
          rw [show cutV vb (some 1) none = vb.drop 1 from cut_from (k := 1)]
          have s5 := Same.new (o := .lst (vb.drop 1)) hp
          walk_at "go"
          refine v_ixL (SqL.of (s5.at_ (lh P3.at_))) (atI_nat (j := 2) rfl) ?_
          walk_at "go"
          refine .inl ⟨l, _, rfl, SqL.of (s5.at_ (lh b1)), fun p2 hp2 => ?_⟩
          rw [show cutV vb none (some 1) = vb.take 1 from cut_take (k := 1)]
          have s6 := s5.trans (Same.new (o := .lst (vb.take 1)) hp2)
          have lvb : vb.length ≤ 6 := by rw [DpAll.len b2, List.length_map]; exact f.l6
          refine v_addL ((Same.new hp2).at_ upd_same) upd_same (sz (by rw [List.length_drop, List.length_take]; omega)) fun p3 hp3 => ?_
          have s7 := s6.trans (Same.new (o := .lst (vb.drop 1 ++ vb.take 1)) hp3)
          walk_at "go"
          refine v_set (s7.at_ q2) (j := 2) rfl ?_
          walk_at "go"
          obtain ⟨F1, F2, F3, F4⟩ := fin (ys := [.int days, .ref h, .ref p3, .ref r]) s7 (d4 s7)
          have n3 : H3 p3 = none := free_of s6 hp3
          have pw : p3 ≠ w0 := Dr.ne d3.well n3
          have pq : p3 ≠ q := (ne_of_none q2 n3).symm
          have hs4 := hid_same (w := w0) s7.but
          refine k q h p3 r days hs (ls.drop 1 ++ ls.take 1) rs _ F1 hq ⟨.inl rfl, .inr (d3.free hw n3), .inl rfl⟩ (f.turn.parts F3 ⟨va, F4 nh (hs4.at_ a1), DpAll.sameT F2 a2 (map_noL fun _ => hD_noL)⟩ ⟨_, F4 pq (hid_of upd_same pw), ?_⟩ ⟨vc, F4 nr (hs4.at_ c1), DpAll.sameT F2 c2 (map_noL fun _ => lD_noL)⟩)
          have e2 := DpAll.sameT F2 b2 (map_noL fun _ => lD_noL)
          rw [List.map_append, List.map_drop, List.map_take]
          exact dpall_app (dpall_drop 1 e2) (dpall_take 1 e2)
        · walk_at "go"
          refine v_ixL (SqL.of (lh P3.at_)) (atI_nat (j := 3) rfl) ?_
          walk_at "go"
          refine ⟨1, rfl, ?_⟩
          walk_at "go"
          refine .inl ⟨r, _, rfl, SqL.of (lh c1), fun p hp => ?_⟩
          rw [cut_last]
          have sp := Same.new (o := .lst (vc.take (vc.length - 1))) hp
          walk_at "go"
          refine v_set (sp.at_ q2) (j := 3) rfl ?_
          walk_at "go"
          exact less sp upd_same hp
end
end Kn

set_option Elab.async false
set_option linter.all false
set_option maxRecDepth 100000
set_option maxHeartbeats 4000000
namespace Kn
open PySem PySem.Spec PyProof.Rows L2
local macro_rules | `(tactic| walk_at "go1") => `(tactic| first
  | with_reducible refine s_seq ?_
  | with_reducible refine s_var rfl ?_
  | with_reducible refine s_c ?_
  | with_reducible refine s_cons ?_
  | with_reducible refine s_nil ?_
  | with_reducible refine s_asg ?_
  | with_reducible refine s_name ?_
  | with_reducible refine s_op ?_
  | with_reducible refine s_call ?_
  | with_reducible refine s_cb ?_
  | with_reducible refine s_ret ?_
  | with_reducible refine s_drop ?_
  | with_reducible refine s_next ?_
  | with_reducible refine s_ifs ?_
  | with_reducible refine s_test ?_
  | with_reducible refine s_tB ?_
  | with_reducible refine s_blP ?_
  | with_reducible refine s_intP ?_
  | with_reducible refine iteT ?_
  | with_reducible refine iteF ?_
  | with_reducible refine ite_not ?_
  | with_reducible refine s_and ?_
  | with_reducible refine s_or ?_
  | with_reducible refine s_not ?_
  | with_reducible refine s_andV ?_
  | with_reducible refine s_orV ?_
  | with_reducible refine s_notV ?_
  | with_reducible refine s_chain ?_
  | with_reducible refine s_sub ?_
  | with_reducible refine s_bm ?_
  | with_reducible refine s_sl ?_
  | with_reducible refine s_part ?_
  | with_reducible refine s_nop ?_
  | with_reducible refine s_make ?_
  | with_reducible refine s_un ?_
  | with_reducible refine s_ifE ?_
  | with_reducible refine s_dget ?_
  | with_reducible refine s_dget2 ?_
  | with_reducible refine s_dnew ?_
  | with_reducible refine s_ivals ?_
  | with_reducible refine s_brk ?_
  | with_reducible refine s_gcons ?_
  | with_reducible refine s_gnil ?_
  | with_reducible refine s_meth ?_
  | with_reducible refine s_rev ?_
  | with_reducible refine s_lc ?_
  | with_reducible refine s_rng1 ?_
  | with_reducible refine s_ilst ?_
  | with_reducible refine s_istr ?_
  | with_reducible refine s_for ?_
  | with_reducible refine s_yes ?_
  | with_reducible refine s_wipe rfl ?_
  | with_reducible refine s_kget ?_
  | with_reducible refine s_strP ?_
  | with_reducible refine s_fldS ?_
  | with_reducible refine s_fld ?_
  | with_reducible refine s_tup ?_
  | with_reducible refine s_lst ?_
  | with_reducible refine v_addI ?_
  | with_reducible refine v_subI ?_
  | with_reducible refine v_lt ?_
  | with_reducible refine v_le ?_
  | with_reducible refine v_gt ?_
  | with_reducible refine v_ge ?_
  | with_reducible refine v_eqI ?_
  | with_reducible refine v_eqS ?_
  | with_reducible refine v_neS ?_
  | with_reducible refine v_neI ?_)
local macro_rules | `(tactic| walk_at "go") => `(tactic| repeat walk_at "go1")

section
variable {w : World} {P : Program} {mg : Str → Option Value} {K : PySem.W.Frag} {base : Heap}
def SameQ (H H' : Hp) : Prop := ∀ a o, H a = some o → (∀ C dx fs, o ≠ .ins C dx fs) → H' a = some o
theorem SameQ.sql {K : PySem.W.Frag} {H H' : Hp} {a : Addr} {xs : List V} (e : SameQ H H') (h : SqL K H a xs) : SqL K H' a xs := by
  rcases h with (h | ⟨o, h⟩) | h
  · exact .inl (.inl (e _ _ h (fun _ _ _ q => by cases q)))
  · exact .inl (.inr ⟨o, e _ _ h (fun _ _ _ q => by cases q)⟩)
  · exact .inr h
theorem SameQ.sqt {K : PySem.W.Frag} {H H' : Hp} {a : Addr} {xs : List V} (e : SameQ H H') (h : SqT K H a xs) : SqT K H' a xs := by
  rcases h with (h | ⟨o, h⟩) | h
  · exact .inl (.inl (e _ _ h (fun _ _ _ q => by cases q)))
  · exact .inl (.inr ⟨o, e _ _ h (fun _ _ _ q => by cases q)⟩)
  · exact .inr h
mutual
theorem Dp.sameQ {K : PySem.W.Frag} {H H' : Hp} (s : SameQ H H') : ∀ {d : PyData} {v : V}, Dp K H v d → Dp K H' v d
  | _, _, .non => .non
  | _, _, .bl b => .bl b
  | _, _, .int i => .int i
  | _, _, .str x => .str x
  | _, _, .lst h1 h2 => .lst (s.sql h1) (DpAll.sameQ s h2)
  | _, _, .tup h1 h2 => .tup (s.sqt h1) (DpAll.sameQ s h2)
theorem DpAll.sameQ {K : PySem.W.Frag} {H H' : Hp} (s : SameQ H H') : ∀ {ds : List PyData} {vs : List V}, DpAll K H vs ds → DpAll K H' vs ds
  | _, _, .nil => .nil
  | _, _, .cons h1 h2 => .cons (Dp.sameQ s h1) (DpAll.sameQ s h2)
end
theorem use_mkYear {K : PySem.W.Frag} {H : Hp} {Q : VK} {E : XK} {days : Int} {a2 a3 a4 : Addr} {hs : List (Str × Str)} {ls rs : List LimT} (h2 : Dp K H (.ref a2) (.list (hs.map hD))) (h3 : Dp K H (.ref a3) (.list (ls.map lD))) (h4 : Dp K H (.ref a4) (.list (rs.map lD)))
    (f2 : Fit (.list (hs.map hD))) (f3 : Fit (.list (ls.map lD))) (f4 : Fit (.list (rs.map lD))) (ok : YearOk days hs (ls.map lD) (rs.map lD))
    {x dx : Addr} (nx : H x = none) (nd : H dx = none)
    (k : ∀ H2, Same H H2 → (∀ ws, Fr ws H → (∀ w ∈ ws, ∃ xs, H2 w = some (.lst xs)) → YearAt K (hidL ws H2) x days hs (ls.map lD) (rs.map lD)) → Q .non H2) :
    sp_Year___init__ K [.ref x, .int days, .ref a2, .ref a3, .ref a4] (upd (upd H dx (.own x)) x (.ins (He.ga K "Year") dx [])) Q E := by
  have s0 : Same H (upd (upd H dx (.own x)) x (.ins (He.ga K "Year") dx [])) := (Same.new nd).mut nx
  refine ⟨x, dx, .int days, .ref a2, .ref a3, .ref a4, .int days, _, _, _, rfl, upd_same, ⟨.int _, Dp.same s0 h2, Dp.same s0 h3, Dp.same s0 h4⟩, ⟨(FitN.int (n := 1)).fit (by omega), f2, f3, f4⟩, ?_, fun hno => (hno days hs _ _ rfl rfl rfl rfl ok).elim⟩
  intro days' hs' ls' rs' va vb vc e1 e2 e3 e4 p1 p2 p3 _ a b c H' na nb nc ab ac bc bt q1 q2 q3 q4
  injection e1 with e1
  subst e1
  injection e2 with e2
  injection e3 with e3
  injection e4 with e4
  rw [← e2] at p1
  rw [← e3] at p2
  rw [← e4] at p3
  have sH : Same H H' := fun u o e => bt u o (ne_of_none e nx) (s0.at_ e)
  have sQ : SameQ (upd (upd H dx (.own x)) x (.ins (He.ga K "Year") dx [])) H' := fun u o e n => bt u o (fun q => by
    rw [q, upd_same] at e
    injection e with e
    exact n _ _ _ e.symm) e
  refine k H' sH fun ws hf hl => ⟨⟨dx, a, b, c, va, vb, vc, hidL_of q1 (fun m => hf x m nx), hidL_of q2 (fun m => hf a m (free_of s0 na)), ?_, hidL_of q3 (fun m => hf b m (free_of s0 nb)), ?_, hidL_of q4 (fun m => hf c m (free_of s0 nc)), ?_⟩, ok.2.2.1⟩
  · exact DpAll.sameT (hidL_sameT hl) (DpAll.sameQ sQ p1) (map_noL fun _ => hD_noL)
  · exact DpAll.sameT (hidL_sameT hl) (DpAll.sameQ sQ p2) (map_noL fun _ => lD_noL)
  · exact DpAll.sameT (hidL_sameT hl) (DpAll.sameQ sQ p3) (map_noL fun _ => lD_noL)
theorem Parts.hid {K : PySem.W.Frag} {H : Hp} {pl h l r : Addr} {days : Int} {hs : List (Str × Str)} {ls rs : List LimT} {ws : List Addr} (p : Parts K H pl h l r days hs ls rs) (hl : ∀ w ∈ ws, ∃ xs, H w = some (.lst xs)) (n1 : pl ∉ ws) (n2 : h ∉ ws) (n3 : l ∉ ws) (n4 : r ∉ ws) : Parts K (hidL ws H) pl h l r days hs ls rs := by
  obtain ⟨va, a1, a2⟩ := p.ah
  obtain ⟨vb, b1, b2⟩ := p.al
  obtain ⟨vc, c1, c2⟩ := p.ar
  have sT := hidL_sameT hl
  exact ⟨hidL_of p.at_ n1, ⟨va, hidL_of a1 n2, DpAll.sameT sT a2 (map_noL fun _ => hD_noL)⟩, ⟨vb, hidL_of b1 n3, DpAll.sameT sT b2 (map_noL fun _ => lD_noL)⟩, ⟨vc, hidL_of c1 n4, DpAll.sameT sT c2 (map_noL fun _ => lD_noL)⟩, p.hh, p.nm, p.d1, p.d2, p.l6, p.lr, p.r4, p.rr, p.su⟩
/-- a year and what is due of it -/
structure YD (K : PySem.W.Frag) (G : Hp) (y d : Addr) : Prop where
  ex : ∃ (days : Int) (hs : List (Str × Str)) (ls rs : List LimT), YearAt K G y days hs (ls.map lD) (rs.map lD) ∧ Dp K G (.ref d) (dueD days hs (ls.map lD) (rs.map lD)) ∧ NmsOk hs ∧ (∀ x ∈ ls, x.1 ∈ hs.map (·.1)) ∧ ∀ x ∈ rs, x.1 ∈ hs.map (·.1)
theorem YD.same {K : PySem.W.Frag} {G G' : Hp} {y d : Addr} (h : YD K G y d) (s : Same G G') : YD K G' y d := by
  obtain ⟨days, hs, ls, rs, h1, h2, h3⟩ := h
  exact ⟨days, hs, ls, rs, h1.same s, Dp.same s h2, h3⟩
theorem lst3 {as : List Addr} (h : as.length = 3) : ∃ a b c, as = [a, b, c] := by
  match as, h with
  | [a, b, c], _ => exact ⟨a, b, c, rfl⟩
theorem cutV_int {ns : List Int} {lo hi : Option Int} : ∃ zs : List Int, cutV (ns.map V.int) lo hi = zs.map V.int ∧ zs.length ≤ ns.length := by
  refine ⟨(ns.drop (HT.sIx (ns.map V.int).length 0 lo)).take (HT.sIx (ns.map V.int).length (ns.map V.int).length hi - HT.sIx (ns.map V.int).length 0 lo), ?_, ?_⟩
  · unfold cutV
    rw [List.map_take, List.map_drop]
  · rw [List.length_take, List.length_drop]
    omega
theorem cut3 {x y z t : V} : cutV [x, y, z, t] (some 1) none = [y, z, t] := cut_from (k := 1)
def partsD (days : Int) (hs : List (Str × Str)) (ls rs : List LimT) : PyData := .list [.int days, .list (hs.map hD), .list (ls.map lD), .list (rs.map lD)]
theorem parts_fit {days : Int} {hs : List (Str × Str)} {ls rs : List LimT} (hh : Heads hs) (h : NmsOk hs) (hl : ∀ x ∈ ls, x.1 ∈ hs.map (·.1)) (hr : ∀ x ∈ rs, x.1 ∈ hs.map (·.1)) : Fit (partsD days hs ls rs) ∧ Fit (.list (hs.map hD)) ∧ Fit (.list (ls.map lD)) ∧ Fit (.list (rs.map lD)) := by
  have f1 : FitN 3 (.list (hs.map hD)) := fit_map fun p hp => hD_fit hh h hp
  have f2 : FitN 3 (.list (ls.map lD)) := fit_map fun x hx => lD_fit (h _ (hl x hx))
  have f3 : FitN 3 (.list (rs.map lD)) := fit_map fun x hx => lD_fit (h _ (hr x hx))
  refine ⟨(FitN.lst (n := 3) fun d hd => ?_).fit (by omega), f1.fit (by omega), f2.fit (by omega), f3.fit (by omega)⟩
  rcases (show d = .int days ∨ d = .list (hs.map hD) ∨ d = .list (ls.map lD) ∨ d = .list (rs.map lD) by simpa using hd) with rfl | rfl | rfl | rfl
  · exact .int
  · exact f1
  · exact f2
  · exact f3

theorem indexK (K : PySem.W.Frag) {X : Cx} (h : X.K = K) : MtR X "list.index" (rIndex K) := h ▸ mt_index
theorem s_bm0 {K : PySem.W.Frag} {T : String} {r : V → List V → Hp → VK → Prop} {ta : TE} {σ : L2.St} {H : Hp} {Q : VK} (h : ta σ H fun x H1 => tyV K T x H1 ∧ r x [] H1 Q) : tBM0 K T r ta σ H Q := h
theorem hid_hidL {w : Addr} {H : Hp} : hid w H = hidL [w] H := by
  funext b
  unfold hid hidL
  simp
theorem eqv_hD {p q : Str × Str} (h : PyData.eqv (hD p) (hD q) = true) : p = q := by
  obtain ⟨a, b⟩ := p
  obtain ⟨c, d⟩ := q
  simp only [hD, PyData.eqv, PyData.eqvAll, Bool.and_eq_true, beq_iff_eq] at h
  rw [h.1, h.2.1]
theorem eqv_heads : ∀ {hs gs : List (Str × Str)}, PyData.eqvAll (hs.map hD) (gs.map hD) = true → hs = gs
  | [], [], _ => rfl
  | [], q :: s, h => by simp [PyData.eqvAll] at h
  | p :: r, [], h => by simp [PyData.eqvAll] at h
  | p :: r, q :: s, h => by
    rw [List.map_cons, List.map_cons, PyData.eqvAll, Bool.and_eq_true] at h
    rw [eqv_hD h.1, eqv_heads h.2]
theorem eqv_headsL {hs gs : List (Str × Str)} (h : PyData.eqv (.list (hs.map hD)) (.list (gs.map hD)) = true) : hs = gs := eqv_heads (by rw [PyData.eqv] at h; exact h)
end
end Kn

set_option Elab.async false
set_option linter.all false
set_option maxRecDepth 100000
set_option maxHeartbeats 4000000
namespace Kn
open PySem PySem.Spec PyProof.Rows L2
local macro_rules | `(tactic| walk_at "go1") => `(tactic| first
  | with_reducible refine s_seq ?_
  | with_reducible refine s_var rfl ?_
  | with_reducible refine s_c ?_
  | with_reducible refine s_cons ?_
  | with_reducible refine s_nil ?_
  | with_reducible refine s_asg ?_
  | with_reducible refine s_name ?_
  | with_reducible refine s_op ?_
  | with_reducible refine s_call ?_
  | with_reducible refine s_cb ?_
  | with_reducible refine s_ret ?_
  | with_reducible refine s_drop ?_
  | with_reducible refine s_next ?_
  | with_reducible refine s_ifs ?_
  | with_reducible refine s_test ?_
  | with_reducible refine s_tB ?_
  | with_reducible refine s_blP ?_
  | with_reducible refine s_intP ?_
  | with_reducible refine iteT ?_
  | with_reducible refine iteF ?_
  | with_reducible refine ite_not ?_
  | with_reducible refine s_and ?_
  | with_reducible refine s_or ?_
  | with_reducible refine s_not ?_
  | with_reducible refine s_andV ?_
  | with_reducible refine s_orV ?_
  | with_reducible refine s_notV ?_
  | with_reducible refine s_chain ?_
  | with_reducible refine s_sub ?_
  | with_reducible refine s_bm ?_
  | with_reducible refine s_sl ?_
  | with_reducible refine s_part ?_
  | with_reducible refine s_nop ?_
  | with_reducible refine s_make ?_
  | with_reducible refine s_un ?_
  | with_reducible refine s_ifE ?_
  | with_reducible refine s_dget ?_
  | with_reducible refine s_dget2 ?_
  | with_reducible refine s_dnew ?_
  | with_reducible refine s_ivals ?_
  | with_reducible refine s_brk ?_
  | with_reducible refine s_gcons ?_
  | with_reducible refine s_gnil ?_
  | with_reducible refine s_meth ?_
  | with_reducible refine s_rev ?_
  | with_reducible refine s_lc ?_
  | with_reducible refine s_rng1 ?_
  | with_reducible refine s_ilst ?_
  | with_reducible refine s_istr ?_
  | with_reducible refine s_for ?_
  | with_reducible refine s_yes ?_
  | with_reducible refine s_wipe rfl ?_
  | with_reducible refine s_kget ?_
  | with_reducible refine s_strP ?_
  | with_reducible refine s_fldS ?_
  | with_reducible refine s_fld ?_
  | with_reducible refine s_tup ?_
  | with_reducible refine s_lst ?_
  | with_reducible refine v_addI ?_
  | with_reducible refine v_subI ?_
  | with_reducible refine v_lt ?_
  | with_reducible refine v_le ?_
  | with_reducible refine v_gt ?_
  | with_reducible refine v_ge ?_
  | with_reducible refine v_eqI ?_
  | with_reducible refine v_eqS ?_
  | with_reducible refine v_neS ?_
  | with_reducible refine v_neI ?_)
local macro_rules | `(tactic| walk_at "go") => `(tactic| repeat walk_at "go1")

section
variable {w : World} {P : Program} {mg : Str → Option Value} {K : PySem.W.Frag} {base : Heap}
theorem ho_ne : ∀ {seen : List Str} {hs : List (Str × Str)} {i j : Nat} {p q : Str × Str}, HO_ seen hs → hs[i]? = some p → hs[j]? = some q → i < j → ¬ p.1 = q.1
  | _, [], _, _, _, _, _, h, _, _ => by cases h
  | seen, a :: r, 0, j + 1, p, q, ho, h1, h2, _ => by
    injection h1 with h1
    subst h1
    exact fun e => ho_nd ho (by rw [e]; exact List.mem_map.mpr ⟨q, List.mem_of_getElem? h2, rfl⟩)
  | seen, a :: r, i + 1, j + 1, p, q, ho, h1, h2, hl => ho_ne (i := i) (j := j) ho.2.2.2 h1 h2 (by omega)
  | _, _ :: _, _, 0, _, _, _, _, _, hl => by omega
theorem fit3 {hs : List (Str × Str)} {ls rs : List LimT} (hh : Heads hs) (h : NmsOk hs) (hl : ∀ x ∈ ls, x.1 ∈ hs.map (·.1)) (hr : ∀ x ∈ rs, x.1 ∈ hs.map (·.1)) : Fit (.list [.list (hs.map hD), .list (ls.map lD), .list (rs.map lD)]) := by
  refine (FitN.lst (n := 3) fun d hd => ?_).fit (by omega)
  rcases (show d = .list (hs.map hD) ∨ d = .list (ls.map lD) ∨ d = .list (rs.map lD) by simpa using hd) with rfl | rfl | rfl
  · exact fit_map fun p hp => hD_fit hh h hp
  · exact fit_map fun x hx => lD_fit (h _ (hl x hx))
  · exact fit_map fun x hx => lD_fit (h _ (hr x hx))
theorem atF {l : Addr} {F Hn : Hp} (c : Same F (hidL [l] Hn)) {z : Addr} {o : HO} (e : F z = some o) : Hn z = some o := (hidL_at (c.at_ e)).1
theorem dpF {K : PySem.W.Frag} {l : Addr} {F Hn : Hp} (c : Same F (hidL [l] Hn)) {ds : List PyData} {vs : List V} (e : DpAll K F vs ds) : DpAll K Hn vs ds := DpAll.same (c.trans hidL_le) e

theorem ok_law (T : Tx P w K mg base) : DefOk P w K mg base 6 ("law", none) ["_law_script"] (sp_law K) := by
  refine mkOk T.f_law sc_law (fun vs H Q E h => ?_) (fun _ _ _ _ _ _ us hl => match us, hl with | [_], _ => rfl) (fun cdv A outer s H vs Q E hr h => ?_)
  · obtain ⟨a, ns, rfl, hS, hlen, hbits, k⟩ := h
    rfl
  · obtain ⟨a, ns, rfl, hS, hlen, hbits, k⟩ := h
    refine ⟨_, (pss_cons (ps_set (i := 1) sc_law.nd rfl (Or.inl rfl) (pe_lst pa_nil))
      (pss_cons (ps_set (i := 2) sc_law.nd rfl (Or.inl rfl) (pe_lst pa_nil))
      (pss_cons (ps_for (passes_of rfl) rfl (psqK K rfl (pe_slice (slK K rfl) (pe_op kAdd (pe_slice (slK K rfl) (pv 0) po_none (po_some pe_int)) (pe_lst (pa_cons pe_int (pa_cons pe_int (pa_cons pe_int pa_nil))))) po_none (po_some pe_int))) (pg_name (i := 3) sc_law.nd rfl (Or.inl rfl)) (pss_cons (ps_set (i := 4) sc_law.nd rfl (Or.inl rfl) (kc (ok_Lwell (K := K) T) T.g__law_well (hr.mono (by decide)) pB (pa_cons (pv 3) pa_nil)))
      (pss_cons (ps_set (i := 5) sc_law.nd rfl (Or.inl rfl) (kc (ok_Lparts (K := K) T) T.g__law_parts (hr.mono (by decide)) pB (pa_cons (pv 4) pa_nil)))
      (pss_cons (ps_set (i := 6) sc_law.nd rfl (Or.inl rfl) (kc (ok_Lnear (K := K) T) T.g__law_near (hr.mono (by decide)) pB (pa_cons (pv 4) (pa_cons (pv 5) pa_nil))))
      (pss_cons (ps_setLc (i := 7) (own := [("_law_some", 9)]) rfl sc_law.nd rfl rfl (sw_true rfl rfl rfl (by decide +kernel)) (psqK K rfl (pe_slice (slK K rfl) (pv 5) (po_some pe_int) po_none)) (blkOk_by (N := nm_law) (sc := defScope s_law) (by decide +kernel)) (fun _ _ _ _ _ => (pg_name (i := 9) sc_law.nd rfl (Or.inl rfl))) (fun _ _ _ _ _ => pts_nil) (fun _ _ _ _ _ => (pe_callTy (listK K rfl) rfl T.n_list (by decide +kernel) (pa_cons (pv 9) pa_nil))))
      (pss_cons (ps_expr (bmK K rfl PySem.F.plainAttrs_list PySem.F.slot_list_append PySem.F.type_list_append mt_append (pv 1) (pa_cons (kmk (ik := "") T.mk_Year (ok_Year___init__ (K := K) T) T.g_Year (hr.mono (by decide)) pB (pa_cons (pe_ix (ixK K rfl) (pv 5) pe_int (fun _ _ => rfl)) (pa_cons (pe_ix (ixK K rfl) (pv 7) pe_int (fun _ _ => rfl)) (pa_cons (pe_ix (ixK K rfl) (pv 7) pe_int (fun _ _ => rfl)) (pa_cons (pe_ix (ixK K rfl) (pv 7) pe_int (fun _ _ => rfl)) pa_nil))))) pa_nil)))
      (pss_cons (ps_set (i := 8) sc_law.nd rfl (Or.inl rfl) (pe_ix (ixK K rfl) (pe_lst (pa_cons (pe_ix (ixK K rfl) (pv 7) pe_int (fun _ _ => rfl)) (pa_cons (pe_callTy (listK K rfl) rfl T.n_list (by decide +kernel) (pa_cons (pe_ix (ixK K rfl) (pv 6) pe_int (fun _ _ => rfl)) pa_nil)) pa_nil))) (pe_callTy kInt1 rfl T.n_int (by decide +kernel) (pa_cons (pe_cmpR (neK K rfl hr) (pe_ix (ixK K rfl) (pv 6) pe_int (fun _ _ => rfl)) (pe_ix (ixK K rfl) (pv 5) pe_int (fun _ _ => rfl)) (nomark _)) pa_nil)) (fun _ _ => rfl)))
      (pss_cons (ps_expr (bmK K rfl PySem.F.plainAttrs_list PySem.F.slot_list_append PySem.F.type_list_append mt_append (pv 1) (pa_cons (kmk (ik := "") T.mk_Year (ok_Year___init__ (K := K) T) T.g_Year (hr.mono (by decide)) pB (pa_cons (pe_ix (ixK K rfl) (pv 6) pe_int (fun _ _ => rfl)) (pa_cons (pv 8) (pa_cons (pe_callTy (listK K rfl) rfl T.n_list (by decide +kernel) (pa_cons (pe_ix (ixK K rfl) (pv 6) pe_int (fun _ _ => rfl)) pa_nil)) (pa_cons (pe_callTy (listK K rfl) rfl T.n_list (by decide +kernel) (pa_cons (pe_ix (ixK K rfl) (pv 6) pe_int (fun _ _ => rfl)) pa_nil)) pa_nil))))) pa_nil)))
      (pss_cons (ps_expr (bmK K rfl PySem.F.plainAttrs_list PySem.F.slot_list_append PySem.F.type_list_append mt_append (pv 1) (pa_cons (kmk (ik := "") T.mk_Year (ok_Year___init__ (K := K) T) T.g_Year (hr.mono (by decide)) pB (pa_cons (pe_ix (ixK K rfl) (pv 5) pe_int (fun _ _ => rfl)) (pa_cons (pe_ix (ixK K rfl) (pv 7) pe_int (fun _ _ => rfl)) (pa_cons (pe_ix (ixK K rfl) (pv 7) pe_int (fun _ _ => rfl)) (pa_cons (pe_ix (ixK K rfl) (pv 7) pe_int (fun _ _ => rfl)) pa_nil))))) pa_nil)))
      (pss_cons (ps_set (i := 2) sc_law.nd rfl (Or.inl rfl) (pe_op kAdd (pv 2) (pe_lst (pa_cons (kc (ok_Ldue (K := K) T) T.g__law_due (hr.mono (by decide)) pB (pa_cons (pv 5) pa_nil)) (pa_cons (kc (ok_Ldue (K := K) T) T.g__law_due (hr.mono (by decide)) pB (pa_cons (pv 6) pa_nil)) (pa_cons (kc (ok_Ldue (K := K) T) T.g__law_due (hr.mono (by decide)) pB (pa_cons (pv 5) pa_nil)) pa_nil))))))
      (pss_cons (ps_if (pt_cmpR (neK K rfl hr) (pv 7) (pe_slice (slK K rfl) (pv 5) (po_some pe_int) po_none) (nomark _)) (pss_one (ps_ret pe_bl)) pss_nil)
      (pss_one (ps_for (passes_of rfl) rfl (psqK K rfl (pv 7)) (pg_name (i := 9) sc_law.nd rfl (Or.inl rfl)) (pss_one (ps_expr (bm0K K rfl PySem.F.plainAttrs_list PySem.F.slot_list_clear PySem.F.type_list_clear mt_clear (pv 9)))))))))))))))))
      (pss_cons (ps_for (passes_of rfl) rfl (psqK K rfl (pe_op kAdd (pe_slice (slK K rfl) (pv 0) (po_some pe_int) (po_some pe_int)) (pe_lst (pa_cons pe_int (pa_cons pe_int (pa_cons pe_int pa_nil)))))) (pg_name (i := 3) sc_law.nd rfl (Or.inl rfl)) (pss_cons (ps_set (i := 4) sc_law.nd rfl (Or.inl rfl) (kc (ok_Lwell (K := K) T) T.g__law_well (hr.mono (by decide)) pB (pa_cons (pv 3) pa_nil)))
      (pss_cons (ps_set (i := 10) sc_law.nd rfl (Or.inl rfl) (kc (ok_Ldraw (K := K) T) T.g__law_draw (hr.mono (by decide)) pB (pa_cons (pv 4) (pa_cons (pe_callB (lenK K rfl) rfl T.n_len (by decide +kernel) (pa_cons (pv 1) pa_nil)) pa_nil))))
      (pss_cons (ps_set (i := 11) sc_law.nd rfl (Or.inl rfl) (pe_ix (ixK K rfl) (pe_ix (ixK K rfl) (pv 2) (pv 10) (fun _ _ => rfl)) pe_int (fun _ _ => rfl)))
      (pss_cons (ps_set (i := 12) sc_law.nd rfl (Or.inl rfl) (pe_ix (ixK K rfl) (pe_ix (ixK K rfl) (pv 11) (kc (ok_Ldraw (K := K) T) T.g__law_draw (hr.mono (by decide)) pB (pa_cons (pv 4) (pa_cons (pe_callB (lenK K rfl) rfl T.n_len (by decide +kernel) (pa_cons (pv 11) pa_nil)) pa_nil))) (fun _ _ => rfl)) pe_int (fun _ _ => rfl)))
      (pss_cons (ps_if (pt_cmpR (neK K rfl hr) (kme (pe_ix (ixK K rfl) (pv 1) (pv 10) (fun _ _ => rfl)) (ways_under (K := K) T) (hr.mono (by decide)) pB (pa_cons (pv 12) pa_nil)) (pe_ix (ixK K rfl) (pe_ix (ixK K rfl) (kc (ok_Lall (K := K) T) T.g__law_all (hr.mono (by decide)) pB (pa_cons (pv 11) pa_nil)) (bmK K rfl PySem.F.plainAttrs_list PySem.F.slot_list_index PySem.F.type_list_index (indexK K rfl) (pe_lc (own := [("_law_one", 14), ("_law_above", 15)]) rfl sc_law.nd (psqK K rfl (pv 11)) (blkOk_by (N := nm_law) (sc := defScope s_law) (by decide +kernel)) (fun _ _ _ _ _ => (gtK (n := 2) K rfl rfl (pgs_cons (pg_name (i := 14) sc_law.nd rfl (Or.inl rfl)) (pgs_cons (pg_name (i := 15) sc_law.nd rfl (Or.inl rfl)) pgs_nil)))) (fun _ _ _ _ _ => pts_nil) (fun _ _ _ _ _ => (pv 14))) (pa_cons (pv 12) pa_nil)) (fun _ _ => rfl)) pe_int (fun _ _ => rfl)) (nomark _)) (pss_one (ps_ret pe_bl)) pss_nil)
      (pss_one (ps_for (passes_of rfl) rfl (psqK K rfl (pe_lst (pa_cons (pv 10) (pa_cons (kc (ok_Ldraw (K := K) T) T.g__law_draw (hr.mono (by decide)) pB (pa_cons (pv 4) (pa_cons (pe_callB (lenK K rfl) rfl T.n_len (by decide +kernel) (pa_cons (pv 1) pa_nil)) pa_nil))) (pa_cons (pv 10) pa_nil))))) (pg_name (i := 13) sc_law.nd rfl (Or.inl rfl)) (pss_one (ps_if (pt_cmpR (neK K rfl hr) (kc (ok_Lasked (K := K) T) T.g__law_asked (hr.mono (by decide)) pB (pa_cons (pe_ix (ixK K rfl) (pv 1) (pv 13) (fun _ _ => rfl)) pa_nil)) (pe_ix (ixK K rfl) (pv 2) (pv 13) (fun _ _ => rfl)) (nomark _)) (pss_one (ps_ret pe_bl)) pss_nil))))))))))
      (pss_one (ps_ret pe_bl)))))), ?_⟩
    walk_at "go"
    refine ⟨by show 0 ≤ sizeLine; decide, fun ly hly => ?_⟩
    walk_at "go"
    refine ⟨by show 0 ≤ sizeLine; decide, fun ld0 hld0 => ?_⟩
    have t0 := (Same.new (o := .lst []) hly).trans (Same.new (o := .lst []) hld0)
    have y0 : (upd (upd H ly (.lst [])) ld0 (.lst [])) ly = some (.lst []) := (Same.new hld0).at_ upd_same
    have y1 : (upd (upd H ly (.lst [])) ld0 (.lst [])) ld0 = some (.lst []) := upd_same
    have yd0 : ld0 ≠ ly := (ne_of_none upd_same hld0).symm
    generalize upd (upd H ly (.lst [])) ld0 (.lst []) = HA at *
    walk_at "go"
    refine s_isL ?_
    walk_at "go"
    refine .inl ⟨a, _, rfl, t0.seq hS, fun p1 hp1 => ?_⟩
    obtain ⟨zs, hzs, hzl⟩ := cutV_int (ns := ns) (lo := none) (hi := some 3)
    rw [hzs]
    walk_at "go"
    refine ⟨by show 3 ≤ sizeLine; decide, fun p2 hp2 => ?_⟩
    refine v_addL (xs := zs.map V.int) (zs := [.int 6, .int 13, .int 21]) ((Same.new hp2).at_ upd_same) upd_same ?_ fun p3 hp3 => ?_
    · rw [List.length_map]
      exact sz (by show zs.length + 3 ≤ _; omega)
    have ezs : zs.map V.int ++ [V.int 6, .int 13, .int 21] = (zs ++ [6, 13, 21]).map V.int := by rw [List.map_append]; rfl
    rw [ezs]
    walk_at "go"
    refine .inl ⟨p3, _, rfl, SqL.of upd_same, fun p4 hp4 => ?_⟩
    have e3 : cutV ((zs ++ [6, 13, 21]).map V.int) none (some 3) = ((zs ++ [6, 13, 21]).take 3).map V.int := by rw [List.map_take]; exact cut_take (k := 3)
    rw [e3]
    have l3 : ((zs ++ [6, 13, 21]).take 3).length = 3 := by rw [List.length_take, List.length_append]; show min 3 (zs.length + 3) = 3; omega
    generalize (zs ++ [6, 13, 21]).take 3 = zt at *
    have t4 : Same HA (upd (upd (upd (upd HA p1 (.lst (zs.map V.int))) p2 (.lst [.int 6, .int 13, .int 21])) p3 (.lst ((zs ++ [6, 13, 21]).map V.int))) p4 (.lst (zt.map V.int))) := (((Same.new hp1).trans (Same.new hp2)).trans (Same.new hp3)).trans (Same.new hp4)
    have hA : (upd (upd (upd (upd HA p1 (.lst (zs.map V.int))) p2 (.lst [.int 6, .int 13, .int 21])) p3 (.lst ((zs ++ [6, 13, 21]).map V.int))) p4 (.lst (zt.map V.int))) p4 = some (.lst (zt.map V.int)) := upd_same
    have hly4 : ly ≠ p4 := ne_of_none ((((Same.new hp1).trans (Same.new hp2)).trans (Same.new hp3)).at_ y0) hp4
    generalize upd (upd (upd (upd HA p1 (.lst (zs.map V.int))) p2 (.lst [.int 6, .int 13, .int 21])) p3 (.lst ((zs ++ [6, 13, 21]).map V.int))) p4 (.lst (zt.map V.int)) = HB at *
    refine ⟨p4, rfl, ⟨_, SqL.of hA⟩, ?_⟩
    refine for_it (walk_list (xs := zt.map V.int)) (fun i σ H' => ∃ ld, (∃ v3 v4 v5 v6 v7 v8 v9 v10 v11 v12 v13 v14 v15, σ = [some (.ref a), some (.ref ly), some (.ref ld), v3, v4, v5, v6, v7, v8, v9, v10, v11, v12, v13, v14, v15]) ∧ Same H H' ∧ H' p4 = some (.lst (zt.map V.int)) ∧ ld ≠ ly ∧ ∃ ps : List (Addr × Addr), H' ly = some (.lst (ps.map fun p => V.ref p.1)) ∧ H' ld = some (.lst (ps.map fun p => V.ref p.2)) ∧ ps.length = 3 * i ∧ ∀ p ∈ ps, YD K (hidL [ly] H') p.1 p.2) ?_ (fun _ _ _ _ ⟨_, h⟩ => SqL.of h.2.2.1) ?_ ?_
    · exact ⟨ld0, ⟨_, _, _, _, _, _, _, _, _, _, _, _, _, rfl⟩, t0.trans t4, hA, yd0, [], t4.at_ y0, t4.at_ y1, rfl, fun p hp => nomatch hp⟩
    · rintro i x σ H1 H1' hi ⟨ld, ⟨v3, v4, v5, v6, v7, v8, v9, v10, v11, v12, v13, v14, v15, rfl⟩, r0, r1, ndy, ps, r3, r4, r5, r6⟩ ⟨rfl, hx⟩
      rw [List.getElem?_map] at hx
      obtain ⟨z, hz, rfl⟩ := Option.map_eq_some_iff.mp hx
      have hi3 : i < 3 := by
        have := (List.getElem?_eq_some_iff.mp hz).1
        omega
      walk_at "go"
      refine ⟨z, rfl, fun w H2 hw s2 hwa => ?_⟩
      walk_at "go"
      refine ⟨w, rfl, hwa, fun pl h l r days hs ls rs H3 d3 n1 n2 n3 n4 hP => ?_⟩
      walk_at "go"
      have hw3 : ∀ z ∈ [w], ∃ xs, H3 z = some (.lst xs) := fun z hz => by
        rw [List.mem_singleton.mp hz]
        obtain ⟨x, y, zz, e⟩ := d3.well
        exact ⟨_, e⟩
      have nw : ∀ {z : Addr}, H2 z = none → z ∉ [w] := fun e m => by
        rw [List.mem_singleton.mp m] at e
        obtain ⟨x, y, zz, e2⟩ := hwa
        rw [e2] at e
        cases e
      have hPh : Parts K (hid w H3) pl h l r days hs ls rs := by
        rw [hid_hidL]
        exact hP.hid hw3 (nw n1) (nw n2) (nw n3) (nw n4)
      refine use_lnear d3.well hPh fun q h2 l2 r2 days2 hs2 ls2 rs2 H4 d4 hq hfr hN => ?_
      have hP4 : Parts K H4 pl h l r days hs ls rs := (hPh.same (hid_same d4.but)).same hid_le
      have hN4 : Parts K H4 q h2 l2 r2 days2 hs2 ls2 rs2 := hN.same hid_le
      have s4 : Same H1' H4 := (d3.trans d4).same s2 hw
      have nl2 : ∀ {z : Addr} {o : HO}, z ≠ w → H4 z = some o → z ≠ ly → hidL [ly] H4 z = some o := fun _ e n => hidL_of e (by simpa using n)
      have nly : ∀ {z : Addr}, H2 z = none → z ≠ ly := fun e z2 => by rw [z2, s2.at_ r3] at e; cases e
      have hly4' := s4.at_ r3
      obtain ⟨va, a1, a2⟩ := hP4.ah
      obtain ⟨vb, b1, b2⟩ := hP4.al
      obtain ⟨vc, c1, c2⟩ := hP4.ar
      have hlm : ∀ x ∈ ls, x.1 ∈ hs.map (·.1) := fun x hx => (hP.lr x hx).1
      have hrm : ∀ x ∈ rs, x.1 ∈ hs.map (·.1) := fun x hx => (hP.rr x hx).1
      have hlm2 : ∀ x ∈ ls2, x.1 ∈ hs2.map (·.1) := fun x hx => (hN.lr x hx).1
      have hrm2 : ∀ x ∈ rs2, x.1 ∈ hs2.map (·.1) := fun x hx => (hN.rr x hx).1
      obtain ⟨fP, fA, fB, fC⟩ := parts_fit (days := days) hP.hh hP.nm hlm hrm
      obtain ⟨fP2, fA2, fB2, fC2⟩ := parts_fit (days := days2) hN.hh hN.nm hlm2 hrm2
      have la : va.length ≤ 8 := by rw [DpAll.len a2, List.length_map]; exact hP.hh.le
      have lb : vb.length ≤ 8 := by rw [DpAll.len b2, List.length_map]; have := hP.l6; omega
      have lc : vc.length ≤ 8 := by rw [DpAll.len c2, List.length_map]; have := hP.r4; omega
      have yok : YearOk days hs (ls.map lD) (rs.map lD) := ⟨hP.d1, hP.d2, hP.hh, limits_ok hP.l6 hP.lr, rules_ok hP.r4 hP.rr hP.sums⟩
      have yok2 : YearOk days2 hs2 (ls2.map lD) (rs2.map lD) := ⟨hN.d1, hN.d2, hN.hh, limits_ok hN.l6 hN.lr, rules_ok hN.r4 hN.rr hN.sums⟩
      walk_at "go"
      refine s_isL ?_
      walk_at "go"
      refine .inl ⟨pl, _, rfl, SqL.of hP4.at_, fun p6 hp6 => ?_⟩
      rw [cut3]
      have u6 := Same.new (o := .lst [.ref h, .ref l, .ref r]) hp6
      have x6 : (upd H4 p6 (.lst [.ref h, .ref l, .ref r])) p6 = some (.lst [.ref h, .ref l, .ref r]) := upd_same
      generalize upd H4 p6 (.lst [.ref h, .ref l, .ref r]) = HC at *
      walk_at "go"
      have hv3 : ∀ (j : Nat) (x : V), [V.ref h, .ref l, .ref r][j]? = some x → ∃ q xs, x = .ref q ∧ [va, vb, vc][j]? = some xs ∧ HC q = some (.lst xs) := fun j x hx => by
        match j, hx with
        | 0, hx => injection hx with hx; exact ⟨h, va, hx.symm, rfl, u6.at_ a1⟩
        | 1, hx => injection hx with hx; exact ⟨l, vb, hx.symm, rfl, u6.at_ b1⟩
        | 2, hx => injection hx with hx; exact ⟨r, vc, hx.symm, rfl, u6.at_ c1⟩
        | j + 3, hx => cases hx
      refine ⟨p6, rfl, ⟨_, SqL.of x6⟩, fun D6 hD6 => lc_it (walk_list (xs := [V.ref h, .ref l, .ref r])) (fun j H' => Same HC H' ∧ ∃ as : List Addr, H' D6 = some (.lst (as.map V.ref)) ∧ as.length = j ∧ as.Nodup ∧ ∀ (z : Nat) (u : Addr), as[z]? = some u → HC u = none ∧ u ≠ D6 ∧ ∃ xs, [va, vb, vc][z]? = some xs ∧ H' u = some (.lst xs)) ?_ (fun _ _ _ h => SqL.of (h.1.at_ x6)) ?_ ?_⟩
      · exact ⟨Same.new hD6, [], upd_same, rfl, List.nodup_nil, fun z u e => by cases e⟩
      · rintro j x G1 G1' hj ⟨e1, as, w1, w2, w3, w4⟩ ⟨rfl, hx⟩
        obtain ⟨q, xs, rfl, hxs, hq⟩ := hv3 j x hx
        have hj3 : j < 3 := hj
        walk_at "go"
        refine v_listL (SqL.of (e1.at_ hq)) fun u hu => ?_
        have nDu : D6 ≠ u := ne_of_none w1 hu
        refine ⟨_, (Same.new hu).at_ w1, by rw [List.length_map]; exact sz_lt (by omega), (e1.trans (Same.new hu)).mut hD6, as ++ [u], ?_, by rw [List.length_append, w2, List.length_singleton], ?_, ?_⟩
        · rw [upd_same, List.map_append]; rfl
        · refine List.nodup_append.mpr ⟨w3, by simp, ?_⟩
          intro y hy z hz e
          rw [List.mem_singleton.mp hz] at e
          obtain ⟨k2, hk2, hk3⟩ := List.getElem_of_mem hy
          obtain ⟨_, _, ys, _, h9⟩ := w4 k2 y (by rw [List.getElem?_eq_getElem hk2, hk3])
          rw [e, hu] at h9
          cases h9
        · intro z v hz
          by_cases hlt : z < as.length
          · rw [List.getElem?_append_left hlt] at hz
            obtain ⟨h5, h6, ys, h7, h8⟩ := w4 z v hz
            refine ⟨h5, h6, ys, h7, ?_⟩
            rw [upd_ne h6]
            exact (Same.new hu).at_ h8
          · rw [List.getElem?_append_right (by omega)] at hz
            have hz0 : z - as.length = 0 := by
              have := (List.getElem?_eq_some_iff.mp hz).1
              rw [List.length_singleton] at this
              omega
            rw [hz0] at hz
            injection hz with hz
            subst hz
            have hzj : z = j := by omega
            refine ⟨free_of e1 hu, nDu.symm, xs, by rw [hzj]; exact hxs, ?_⟩
            rw [upd_ne nDu.symm]
            exact upd_same
      rintro H5 ⟨e4, as, w1, w2, w3, w4⟩
      obtain ⟨h', l', r', rfl⟩ := lst3 w2
      obtain ⟨f1, f2, _, e5, f3⟩ := w4 0 h' rfl
      injection e5 with e5
      subst e5
      obtain ⟨f4, f5, _, e5, f6⟩ := w4 1 l' rfl
      injection e5 with e5
      subst e5
      obtain ⟨f7, f8, _, e5, f9⟩ := w4 2 r' rfl
      injection e5 with e5
      subst e5
      have u7 := u6.trans e4
      walk_at "go"
      -- all that stands but the years' list
      have hly5 := u7.at_ hly4'
      have ly3 : H3 ly ≠ none := fun e => by rw [(d3.same s2 hw).at_ r3] at e; cases e
      have nq : ∀ {z : Addr}, H3 z = none → z ≠ ly := fun e z2 => ly3 (z2 ▸ e)
      have nh2 : h2 ≠ ly := by
        rcases hfr.1 with e | e
        · rw [e]; exact nly n2
        · exact nq e
      have nl2' : l2 ≠ ly := by
        rcases hfr.2.1 with e | e
        · rw [e]; exact nly n3
        · exact nq e
      have nr2 : r2 ≠ ly := by
        rcases hfr.2.2 with e | e
        · rw [e]; exact nly n4
        · exact nq e
      have nH' : ∀ {z : Addr}, HC z = none → z ≠ ly := fun e z2 => by rw [z2, u6.at_ hly4'] at e; cases e
      have sing : ∀ {z : Addr}, z ≠ ly → z ∉ [ly] := fun e => by simpa using e
      have hl1 : ∀ z ∈ [ly], ∃ xs, H5 z = some (.lst xs) := fun z hz => by
        obtain rfl := List.mem_singleton.mp hz
        exact ⟨_, hly5⟩
      have FP : Parts K (hidL [ly] H5) pl h l r days hs ls rs := (hP4.same u7).hid hl1 (sing (nly n1)) (sing (nly n2)) (sing (nly n3)) (sing (nly n4))
      have FN : Parts K (hidL [ly] H5) q h2 l2 r2 days2 hs2 ls2 rs2 := (hN4.same u7).hid hl1 (sing (nq hq)) (sing nh2) (sing nl2') (sing nr2)
      have F6 : hidL [ly] H5 D6 = some (.lst ([h', l', r'].map V.ref)) := hidL_of w1 (sing (nH' hD6))
      have Fh : hidL [ly] H5 h' = some (.lst va) := hidL_of f3 (sing (nH' f1))
      have Fl : hidL [ly] H5 l' = some (.lst vb) := hidL_of f6 (sing (nH' f4))
      have Fr' : hidL [ly] H5 r' = some (.lst vc) := hidL_of f9 (sing (nH' f7))
      have Fd : hidL [ly] H5 ld = some (.lst (ps.map fun p => V.ref p.2)) := hidL_of (u7.at_ (s4.at_ r4)) (sing ndy)
      have Fp : hidL [ly] H5 p4 = some (.lst (zt.map V.int)) := hidL_of (u7.at_ (s4.at_ r1)) (sing hly4.symm)
      have noL3 : ∀ {xs : List (Str × Str)}, noLs (xs.map hD) = true := fun {xs} => map_noL fun _ => hD_noL
      have sTF : SameT H5 (hidL [ly] H5) := hidL_sameT hl1
      have Ka := DpAll.sameT sTF (DpAll.same u7 a2) (map_noL fun _ => hD_noL)
      have Kb := DpAll.sameT sTF (DpAll.same u7 b2) (map_noL fun _ => lD_noL)
      have Kc := DpAll.sameT sTF (DpAll.same u7 c2) (map_noL fun _ => lD_noL)
      have FY : ∀ p ∈ ps, YD K (hidL [ly] H5) p.1 p.2 := fun p hp => (r6 p hp).same ((hidL_same s4).trans (hidL_same u7))
      generalize hFF : hidL [ly] H5 = F at *
      have k5 : Same F (hidL [ly] H5) := by rw [hFF]; exact Same.refl F
      refine ⟨.inl ⟨rfl, _, SqL.of hly5⟩, ?_⟩
      walk_at "go"
      refine v_ixL (SqL.of (atF k5 FP.at_)) (atI_nat (j := 0) rfl) ?_
      walk_at "go"
      refine v_ixL (SqL.of (atF k5 F6)) (atI_nat (j := 0) rfl) ?_
      walk_at "go"
      refine v_ixL (SqL.of (atF k5 F6)) (atI_nat (j := 1) rfl) ?_
      walk_at "go"
      refine v_ixL (SqL.of (atF k5 F6)) (atI_nat (j := 2) rfl) ?_
      walk_at "go"
      refine fun ya dxa hya ndya _ => ?_
      refine use_mkYear (.lst (SqL.of (atF k5 Fh)) (dpF k5 Ka)) (.lst (SqL.of (atF k5 Fl)) (dpF k5 Kb)) (.lst (SqL.of (atF k5 Fr')) (dpF k5 Kc)) fA fB fC yok hya ndya fun H6 s6 hYA => ?_
      refine ⟨rfl, ?_⟩
      walk_at "go"
      refine v_app (s6.at_ hly5) (by rw [List.length_map]; exact sz_lt (by omega)) ?_
      have k6 : Same F (hidL [ly] (upd H6 ly (.lst (List.map (fun p => V.ref p.1) ps ++ [.ref ya])))) := k5.trans ((hidL_same s6).trans (hidL_upd (by simp)))
      have L6 : (upd H6 ly (.lst (List.map (fun p => V.ref p.1) ps ++ [.ref ya]))) ly = some (.lst (List.map (fun p => V.ref p.1) ps ++ [.ref ya])) := upd_same
      generalize hK6 : upd H6 ly (.lst (List.map (fun p => V.ref p.1) ps ++ [.ref ya])) = K6 at *
      walk_at "go"
      obtain ⟨va2, A1, A2⟩ := FN.ah
      obtain ⟨vb2, B1, B2⟩ := FN.al
      obtain ⟨vc2, C1, C2⟩ := FN.ar
      obtain ⟨va1, A3, A4⟩ := FP.ah
      refine v_ixL (SqL.of (atF k6 F6)) (atI_nat (j := 0) rfl) ?_
      walk_at "go"
      refine v_ixL (SqL.of (atF k6 FN.at_)) (atI_nat (j := 1) rfl) ?_
      walk_at "go"
      refine v_listL (SqL.of (atF k6 A1)) fun q1 hq1 => ?_
      walk_at "go"
      refine ⟨by show 2 ≤ sizeLine; decide, fun p8 hp8 => ?_⟩
      have e8 := (Same.new (o := .lst va2) hq1).trans (Same.new (o := .lst [.ref h', .ref q1]) hp8)
      have k8 := k6.trans (hidL_same e8)
      have L8 := e8.at_ L6
      have Q8 : (upd (upd K6 q1 (.lst va2)) p8 (.lst [.ref h', .ref q1])) q1 = some (.lst va2) := (Same.new hp8).at_ upd_same
      have P8 : (upd (upd K6 q1 (.lst va2)) p8 (.lst [.ref h', .ref q1])) p8 = some (.lst [.ref h', .ref q1]) := upd_same
      have yq : q1 ≠ ly := (ne_of_none L6 hq1).symm
      generalize hK8 : upd (upd K6 q1 (.lst va2)) p8 (.lst [.ref h', .ref q1]) = K8 at *
      walk_at "go"
      refine v_ixL (SqL.of (atF k8 FN.at_)) (atI_nat (j := 1) rfl) ?_
      walk_at "go"
      refine v_ixL (SqL.of (atF k8 FP.at_)) (atI_nat (j := 1) rfl) ?_
      refine v_neF (.lst (SqL.of (atF k8 A1)) (dpF k8 A2)) (.lst (SqL.of (atF k8 A3)) (dpF k8 A4)) fA2 fA ?_
      walk_at "go"
      refine v_int1b ?_
      obtain ⟨sh, hat, hsh⟩ : ∃ sh, atI [V.ref h', .ref q1] (if (!PyData.eqv (.list (hs2.map hD)) (.list (hs.map hD))) = true then 1 else 0) = some (.ref sh) ∧ Dp K K8 (.ref sh) (.list (hs2.map hD)) := by
        cases e : PyData.eqv (.list (hs2.map hD)) (.list (hs.map hD)) with
        | true =>
          rw [eqv_headsL e]
          exact ⟨h', atI_nat (j := 0) rfl, .lst (SqL.of (atF k8 Fh)) (dpF k8 Ka)⟩
        | false => exact ⟨q1, atI_nat (j := 1) rfl, .lst (SqL.of Q8) (dpF k8 A2)⟩
      refine v_ixL (SqL.of P8) hat ?_
      walk_at "go"
      refine ⟨.inl ⟨rfl, _, SqL.of L8⟩, ?_⟩
      walk_at "go"
      refine v_ixL (SqL.of (atF k8 FN.at_)) (atI_nat (j := 0) rfl) ?_
      walk_at "go"
      refine v_ixL (SqL.of (atF k8 FN.at_)) (atI_nat (j := 2) rfl) ?_
      walk_at "go"
      refine v_listL (SqL.of (atF k8 B1)) fun q2 hq2 => ?_
      have e9 := Same.new (o := .lst vb2) hq2
      walk_at "go"
      refine v_ixL (SqL.of (e9.at_ (atF k8 FN.at_))) (atI_nat (j := 3) rfl) ?_
      walk_at "go"
      refine v_listL (SqL.of (e9.at_ (atF k8 C1))) fun q3 hq3 => ?_
      have e10 := e9.trans (Same.new (o := .lst vc2) hq3)
      have k9 := k8.trans (hidL_same e10)
      have L9 := e10.at_ L8
      have Q2 : (upd (upd K8 q2 (.lst vb2)) q3 (.lst vc2)) q2 = some (.lst vb2) := (Same.new hq3).at_ upd_same
      have Q3 : (upd (upd K8 q2 (.lst vb2)) q3 (.lst vc2)) q3 = some (.lst vc2) := upd_same
      have hsh9 := Dp.same e10 hsh
      generalize hK9 : upd (upd K8 q2 (.lst vb2)) q3 (.lst vc2) = K9 at *
      walk_at "go"
      refine fun yb dxb hyb ndyb _ => ?_
      refine use_mkYear hsh9 (.lst (SqL.of Q2) (dpF k9 B2)) (.lst (SqL.of Q3) (dpF k9 C2)) fA2 fB2 fC2 yok2 hyb ndyb fun H10 s10 hYB => ?_
      refine ⟨rfl, ?_⟩
      walk_at "go"
      refine v_app (s10.at_ L9) (by rw [List.length_append, List.length_map]; exact sz_lt (by show ps.length + 1 ≤ _; omega)) ?_
      have k10 : Same F (hidL [ly] (upd H10 ly (.lst (List.map (fun p => V.ref p.1) ps ++ [.ref ya] ++ [.ref yb])))) := k9.trans ((hidL_same s10).trans (hidL_upd (by simp)))
      have L10 : (upd H10 ly (.lst (List.map (fun p => V.ref p.1) ps ++ [.ref ya] ++ [.ref yb]))) ly = some (.lst (List.map (fun p => V.ref p.1) ps ++ [.ref ya] ++ [.ref yb])) := upd_same
      generalize hK10 : upd H10 ly (.lst (List.map (fun p => V.ref p.1) ps ++ [.ref ya] ++ [.ref yb])) = K10 at *
      walk_at "go"
      refine ⟨.inl ⟨rfl, _, SqL.of L10⟩, ?_⟩
      walk_at "go"
      refine v_ixL (SqL.of (atF k10 FP.at_)) (atI_nat (j := 0) rfl) ?_
      walk_at "go"
      refine v_ixL (SqL.of (atF k10 F6)) (atI_nat (j := 0) rfl) ?_
      walk_at "go"
      refine v_ixL (SqL.of (atF k10 F6)) (atI_nat (j := 1) rfl) ?_
      walk_at "go"
      refine v_ixL (SqL.of (atF k10 F6)) (atI_nat (j := 2) rfl) ?_
      walk_at "go"
      refine fun yc dxc hyc ndyc _ => ?_
      refine use_mkYear (.lst (SqL.of (atF k10 Fh)) (dpF k10 Ka)) (.lst (SqL.of (atF k10 Fl)) (dpF k10 Kb)) (.lst (SqL.of (atF k10 Fr')) (dpF k10 Kc)) fA fB fC yok hyc ndyc fun H11 s11 hYC => ?_
      refine ⟨rfl, ?_⟩
      walk_at "go"
      refine v_app (s11.at_ L10) (by rw [List.length_append, List.length_append, List.length_map]; exact sz_lt (by show ps.length + 1 + 1 ≤ _; omega)) ?_
      have k12 : Same F (hidL [ly] (upd H11 ly (.lst (List.map (fun p => V.ref p.1) ps ++ [.ref ya] ++ [.ref yb] ++ [.ref yc])))) := k10.trans ((hidL_same s11).trans (hidL_upd (by simp)))
      have L12 : (upd H11 ly (.lst (List.map (fun p => V.ref p.1) ps ++ [.ref ya] ++ [.ref yb] ++ [.ref yc]))) ly = some (.lst (List.map (fun p => V.ref p.1) ps ++ [.ref ya] ++ [.ref yb] ++ [.ref yc])) := upd_same
      generalize hK12 : upd H11 ly (.lst (List.map (fun p => V.ref p.1) ps ++ [.ref ya] ++ [.ref yb] ++ [.ref yc])) = K12 at *
      -- the places that change behind: W
      have wl : ∀ z ∈ [h', l', r', ly], ∃ xs, K12 z = some (.lst xs) := fun z hz => by
        rcases (show z = h' ∨ z = l' ∨ z = r' ∨ z = ly by simpa using hz) with rfl | rfl | rfl | rfl
        · exact ⟨_, atF k12 Fh⟩
        · exact ⟨_, atF k12 Fl⟩
        · exact ⟨_, atF k12 Fr'⟩
        · exact ⟨_, L12⟩
      have wf : Fr [h', l', r', ly] K12 := fun z hz e => by
        obtain ⟨xs, q⟩ := wl z hz
        rw [q] at e
        cases e
      have wn : ∀ {z : Addr} {o : HO}, HC z = some o → z ≠ ly → z ∉ [h', l', r', ly] := fun {z o} e n m => by
        rcases (show z = h' ∨ z = l' ∨ z = r' ∨ z = ly by simpa using m) with q | q | q | q
        · rw [q, f1] at e; cases e
        · rw [q, f4] at e; cases e
        · rw [q, f7] at e; cases e
        · exact n q
      have GP : Parts K K12 pl h l r days hs ls rs := FP.same (k12.trans hidL_le)
      have GN : Parts K K12 q h2 l2 r2 days2 hs2 ls2 rs2 := FN.same (k12.trans hidL_le)
      have WP : Parts K (hidL [h', l', r', ly] K12) pl h l r days hs ls rs := GP.hid wl (wn (u6.at_ hP4.at_) (nly n1)) (wn (u6.at_ a1) (nly n2)) (wn (u6.at_ b1) (nly n3)) (wn (u6.at_ c1) (nly n4))
      have WN : Parts K (hidL [h', l', r', ly] K12) q h2 l2 r2 days2 hs2 ls2 rs2 := by
        obtain ⟨_, x1, _⟩ := hN4.ah
        obtain ⟨_, x2, _⟩ := hN4.al
        obtain ⟨_, x3, _⟩ := hN4.ar
        exact GN.hid wl (wn (u6.at_ hN4.at_) (nq hq)) (wn (u6.at_ x1) nh2) (wn (u6.at_ x2) nl2') (wn (u6.at_ x3) nr2)
      walk_at "go"
      refine use_ldue _ GP WP wf fun da H13 s13 hda' Da => ?_
      walk_at "go"
      refine use_ldue _ (GN.same s13) (WN.same (hidL_same s13)) (wf.same s13) fun db H14 s14 hdb' Db => ?_
      walk_at "go"
      have s134 := s13.trans s14
      refine use_ldue _ (GP.same s134) (WP.same (hidL_same s134)) (wf.same s134) fun dc H15 s15 hdc' Dc => ?_
      walk_at "go"
      refine ⟨by show 3 ≤ sizeLine; decide, fun p9 hp9 => ?_⟩
      have s15b := s134.trans (s15.trans (Same.new (o := .lst [.ref da, .ref db, .ref dc]) hp9))
      refine v_addL (s15b.at_ (atF k12 Fd)) upd_same (sz (by rw [List.length_map]; show ps.length + 3 ≤ _; omega)) fun ld2 hld2 => ?_
      have s16 := s15b.trans (Same.new (o := .lst ((ps.map fun p => V.ref p.2) ++ [.ref da, .ref db, .ref dc])) hld2)
      have dn : ld2 ≠ ly := (ne_of_none (s15b.at_ L12) hld2).symm
      have D2 : (upd (upd H15 p9 (.lst [.ref da, .ref db, .ref dc])) ld2 (.lst ((ps.map fun p => V.ref p.2) ++ [.ref da, .ref db, .ref dc]))) ld2 = some (.lst ((ps.map fun p => V.ref p.2) ++ [.ref da, .ref db, .ref dc])) := upd_same
      have s56 : Same H15 (upd (upd H15 p9 (.lst [.ref da, .ref db, .ref dc])) ld2 (.lst ((ps.map fun p => V.ref p.2) ++ [.ref da, .ref db, .ref dc]))) := (Same.new hp9).trans (Same.new hld2)
      generalize upd (upd H15 p9 (.lst [.ref da, .ref db, .ref dc])) ld2 (.lst ((ps.map fun p => V.ref p.2) ++ [.ref da, .ref db, .ref dc])) = HM at *
      walk_at "go"
      refine .inl ⟨pl, _, rfl, SqL.of (s16.at_ GP.at_), fun p10 hp10 => ?_⟩
      rw [cut3]
      have e11 := Same.new (o := .lst [.ref h, .ref l, .ref r]) hp10
      have X10 : (upd HM p10 (.lst [.ref h, .ref l, .ref r])) p10 = some (.lst [.ref h, .ref l, .ref r]) := upd_same
      have e17 := s16.trans e11
      have D3 := e11.at_ D2
      have s57 := s56.trans e11
      generalize upd HM p10 (.lst [.ref h, .ref l, .ref r]) = HN at *
      have k17 := k12.trans (hidL_same e17)
      obtain ⟨_, z1, z2⟩ := (GP.same e17).ah
      obtain ⟨_, z3, z4⟩ := (GP.same e17).al
      obtain ⟨_, z5, z6⟩ := (GP.same e17).ar
      refine v_neR (.lst (SqL.of (atF k17 F6)) (.cons (.lst (SqL.of (atF k17 Fh)) (dpF k17 Ka)) (.cons (.lst (SqL.of (atF k17 Fl)) (dpF k17 Kb)) (.cons (.lst (SqL.of (atF k17 Fr')) (dpF k17 Kc)) .nil)))) (.lst (SqL.of X10) (.cons (.lst (SqL.of z1) z2) (.cons (.lst (SqL.of z3) z4) (.cons (.lst (SqL.of z5) z6) .nil)))) (fit3 hP.hh hP.nm hlm hrm) ?_
      walk_at "go"
      refine s_isL ?_
      walk_at "go"
      have nD6 : D6 ∉ [h', l', r'] := by simp [f2.symm, f5.symm, f8.symm]
      refine ⟨D6, rfl, ⟨_, SqL.of (atF k17 F6)⟩, ?_⟩
      refine for_it (walk_list (xs := [h', l', r'].map V.ref)) (fun j σ H' => (∃ v3 v4 v5 v6 v7 v8 v9 v10 v11 v12 v13 v14 v15, σ = [some (.ref a), some (.ref ly), some (.ref ld2), v3, v4, v5, v6, v7, v8, v9, v10, v11, v12, v13, v14, v15]) ∧ Same (hidL [h', l', r'] HN) (hidL [h', l', r'] H') ∧ ∀ z ∈ [h', l', r'], ∃ xs, H' z = some (.lst xs)) ?_ (fun _ _ _ _ h => SqL.of (hidL_at (h.2.1.at_ (hidL_of (atF k17 F6) nD6))).1) ?_ ?_
      · refine ⟨⟨_, _, _, _, _, _, _, _, _, _, _, _, _, rfl⟩, Same.refl _, fun z hz => ?_⟩
        rcases (show z = h' ∨ z = l' ∨ z = r' by simpa using hz) with rfl | rfl | rfl
        · exact ⟨_, atF k17 Fh⟩
        · exact ⟨_, atF k17 Fl⟩
        · exact ⟨_, atF k17 Fr'⟩
      · rintro j x σ G0 G0' hj ⟨⟨v3, v4, v5, v6, v7, v8, v9, v10, v11, v12, v13, v14, v15, rfl⟩, sC, hz⟩ ⟨rfl, hx⟩
        obtain ⟨q, rfl, hq⟩ : ∃ q, x = .ref q ∧ q ∈ [h', l', r'] := by
          have hm := List.mem_of_getElem? hx
          obtain ⟨q, hq, rfl⟩ := List.mem_map.mp hm
          exact ⟨q, rfl, hq⟩
        obtain ⟨xs, h1⟩ := hz q hq
        walk_at "go"
        refine s_bm0 ?_
        walk_at "go"
        refine ⟨.inl ⟨rfl, _, SqL.of h1⟩, q, xs, rfl, rfl, h1, ?_⟩
        refine ⟨⟨_, _, _, _, _, _, _, _, _, _, _, _, _, rfl⟩, sC.trans (hidL_upd hq), fun z hz2 => ?_⟩
        by_cases ez : z = q
        · subst ez
          exact ⟨_, upd_same⟩
        · obtain ⟨ys, g1⟩ := hz z hz2
          exact ⟨ys, by rw [upd_ne ez]; exact g1⟩
      · rintro σ HZ ⟨⟨v3, v4, v5, v6, v7, v8, v9, v10, v11, v12, v13, v14, v15, rfl⟩, sC, hz⟩
        have sHC : Same H1' HC := s4.trans u6
        have zat : ∀ {b : Addr} {o : HO}, HC b ≠ none → HN b = some o → HZ b = some o := fun {b o} n e => (hidL_at (sC.at_ (hidL_of e (by
          have m1 : b ≠ h' := fun q => n (q ▸ f1)
          have m2 : b ≠ l' := fun q => n (q ▸ f4)
          have m3 : b ≠ r' := fun q => n (q ▸ f7)
          simp [m1, m2, m3])))).1
        have old : ∀ {b : Addr} {o : HO}, H1' b = some o → b ≠ ly → HZ b = some o := fun {b o} e n => by
          have e2 := sHC.at_ e
          refine zat (fun q => by rw [q] at e2; cases e2) (atF k17 (F := F) ?_)
          rw [← hFF]
          exact hidL_of (e4.at_ e2) (sing n)
        have nlz : ly ≠ h' ∧ ly ≠ l' ∧ ly ≠ r' := ⟨(nH' f1).symm, (nH' f4).symm, (nH' f7).symm⟩
        have tW : Same (hidL [h', l', r', ly] HN) (hidL [ly] HZ) := fun b o e => by
          obtain ⟨y1, y2⟩ := hidL_at e
          refine hidL_of (hidL_at (sC.at_ (hidL_of y1 fun m => y2 ?_))).1 (fun m => y2 ?_)
          · rcases (show b = h' ∨ b = l' ∨ b = r' by simpa using m) with rfl | rfl | rfl <;> simp
          · rw [List.mem_singleton.mp m]; simp
        have t17 := (hidL_same (ws := [h', l', r', ly]) e17).trans tW
        have q12 : Same (hidL [h', l', r', ly] H11) (hidL [h', l', r', ly] K12) := by rw [← hK12]; exact hidL_upd (by simp)
        have q10 : Same (hidL [h', l', r', ly] H10) (hidL [h', l', r', ly] K10) := by rw [← hK10]; exact hidL_upd (by simp)
        have q6 : Same (hidL [h', l', r', ly] H6) (hidL [h', l', r', ly] K6) := by rw [← hK6]; exact hidL_upd (by simp)
        have c11 := q12.trans t17
        have c10 := (q10.trans (hidL_same s11)).trans c11
        have c6 := (q6.trans ((hidL_same e8).trans ((hidL_same e10).trans (hidL_same s10)))).trans c10
        have frl : ∀ {Hx : Hp}, Same F (hidL [ly] Hx) → (∃ xs, Hx ly = some (.lst xs)) → (Fr [h', l', r', ly] Hx ∧ ∀ w ∈ [h', l', r', ly], ∃ xs, Hx w = some (.lst xs)) := fun {Hx} kx lx => by
          have L : ∀ w ∈ [h', l', r', ly], ∃ xs, Hx w = some (.lst xs) := fun z hz => by
            rcases (show z = h' ∨ z = l' ∨ z = r' ∨ z = ly by simpa using hz) with rfl | rfl | rfl | rfl
            · exact ⟨_, atF kx Fh⟩
            · exact ⟨_, atF kx Fl⟩
            · exact ⟨_, atF kx Fr'⟩
            · exact lx
          exact ⟨fun z hz e => (by obtain ⟨xs, q⟩ := L z hz; rw [q] at e; cases e), L⟩
        have YA := (hYA _ (frl k5 ⟨_, hly5⟩).1 (frl (k5.trans (hidL_same s6)) ⟨_, s6.at_ hly5⟩).2).same c6
        have YB := (hYB _ (frl k9 ⟨_, L9⟩).1 (frl (k9.trans (hidL_same s10)) ⟨_, s10.at_ L9⟩).2).same c10
        have YC := (hYC _ (frl k10 ⟨_, L10⟩).1 (frl (k10.trans (hidL_same s11)) ⟨_, s11.at_ L10⟩).2).same c11
        have DA := Dp.same ((hidL_same (s14.trans (s15.trans s57))).trans tW) Da
        have DB := Dp.same ((hidL_same (s15.trans s57)).trans tW) Db
        have DC := Dp.same ((hidL_same s57).trans tW) Dc
        refine ⟨ld2, ⟨_, _, _, _, _, _, _, _, _, _, _, _, _, rfl⟩, fun b o e => old (r0 b o e) (ne_of_none e hly), old r1 hly4.symm, dn, ps ++ [(ya, da), (yb, db), (yc, dc)], ?_, ?_, ?_, fun p hp => ?_⟩
        · rw [List.map_append]
          refine zat (fun q => by rw [u6.at_ hly4'] at q; cases q) ?_
          have := e17.at_ L12
          rw [List.append_assoc, List.append_assoc] at this
          exact this
        · rw [List.map_append]
          have := sC.at_ (hidL_of D3 (by
            have m1 : ld2 ≠ h' := fun q => by rw [q, s15b.at_ (atF k12 Fh)] at hld2; cases hld2
            have m2 : ld2 ≠ l' := fun q => by rw [q, s15b.at_ (atF k12 Fl)] at hld2; cases hld2
            have m3 : ld2 ≠ r' := fun q => by rw [q, s15b.at_ (atF k12 Fr')] at hld2; cases hld2
            simp [m1, m2, m3]))
          exact (hidL_at this).1
        · rw [List.length_append, r5]
          show 3 * i + 3 = 3 * (i + 1)
          omega
        · rcases List.mem_append.mp hp with hp | hp
          · refine (r6 p hp).same fun b o e => ?_
            obtain ⟨y1, y2⟩ := hidL_at e
            exact hidL_of (old y1 (by simpa using y2)) y2
          · rcases (show p = (ya, da) ∨ p = (yb, db) ∨ p = (yc, dc) by simpa using hp) with rfl | rfl | rfl
            · exact ⟨days, hs, ls, rs, YA, DA, hP.nm, hlm, hrm⟩
            · exact ⟨days2, hs2, ls2, rs2, YB, DB, hN.nm, hlm2, hrm2⟩
            · exact ⟨days, hs, ls, rs, YC, DC, hP.nm, hlm, hrm⟩
    · rintro σ H1 ⟨ld, ⟨v3, v4, v5, v6, v7, v8, v9, v10, v11, v12, v13, v14, v15, rfl⟩, r0, r1, ndy, ps, r3, r4, r5, r6⟩
      rw [List.length_map, l3] at r5
      have r7 : ∀ p ∈ ps, YD K H1 p.1 p.2 := fun p hp => (r6 p hp).same hidL_le
      walk_at "go"
      refine s_isL ?_
      walk_at "go"
      refine .inl ⟨a, _, rfl, r0.seq hS, fun p5 hp5 => ?_⟩
      obtain ⟨zu, hzu, hzul⟩ := cutV_int (ns := ns) (lo := some 3) (hi := some 20)
      rw [hzu]
      walk_at "go"
      refine ⟨by show 3 ≤ sizeLine; decide, fun p6 hp6 => ?_⟩
      refine v_addL (xs := zu.map V.int) (zs := [.int 1, .int 4, .int 7]) ((Same.new hp6).at_ upd_same) upd_same ?_ fun p7 hp7 => ?_
      · rw [List.length_map]
        exact sz (by show zu.length + 3 ≤ _; omega)
      have ezu : zu.map V.int ++ [V.int 1, .int 4, .int 7] = (zu ++ [1, 4, 7]).map V.int := by rw [List.map_append]; rfl
      rw [ezu]
      have t7 : Same H1 (upd (upd (upd H1 p5 (.lst (zu.map V.int))) p6 (.lst [.int 1, .int 4, .int 7])) p7 (.lst ((zu ++ [1, 4, 7]).map V.int))) := ((Same.new hp5).trans (Same.new hp6)).trans (Same.new hp7)
      have h7 : (upd (upd (upd H1 p5 (.lst (zu.map V.int))) p6 (.lst [.int 1, .int 4, .int 7])) p7 (.lst ((zu ++ [1, 4, 7]).map V.int))) p7 = some (.lst ((zu ++ [1, 4, 7]).map V.int)) := upd_same
      generalize upd (upd (upd H1 p5 (.lst (zu.map V.int))) p6 (.lst [.int 1, .int 4, .int 7])) p7 (.lst ((zu ++ [1, 4, 7]).map V.int)) = HC at *
      refine ⟨p7, rfl, ⟨_, SqL.of h7⟩, ?_⟩
      refine for_it (walk_list (xs := (zu ++ [1, 4, 7]).map V.int)) (fun i σ H' => (∃ v3 v4 v5 v6 v7 v8 v9 v10 v11 v12 v13 v14 v15, σ = [some (.ref a), some (.ref ly), some (.ref ld), v3, v4, v5, v6, v7, v8, v9, v10, v11, v12, v13, v14, v15]) ∧ Same HC H') ?_ (fun _ _ _ _ h => SqL.of (h.2.at_ h7)) ?_ ?_
      · exact ⟨⟨_, _, _, _, _, _, _, _, _, _, _, _, _, rfl⟩, Same.refl _⟩
      · rintro i x σ H2 H2' hi ⟨⟨v3, v4, v5, v6, v7, v8, v9, v10, v11, v12, v13, v14, v15, rfl⟩, s2⟩ ⟨rfl, hx⟩
        rw [List.getElem?_map] at hx
        obtain ⟨z, hz, rfl⟩ := Option.map_eq_some_iff.mp hx
        have c2 := t7.trans s2
        walk_at "go"
        refine ⟨z, rfl, fun w H3 hw s3 hwa => ?_⟩
        walk_at "go"
        have c3 := c2.trans s3
        refine v_lenL (SqL.of (c3.at_ r3)) ?_
        walk_at "go"
        rw [List.length_map, r5]
        refine use_draw (n := (9 : Nat)) hwa (by decide) (by decide) fun kk H4 hk0 hk1 d4 => ?_
        have c4 : Same H1 H4 := d4.same c3 (free_of c2 hw)
        have cc4 : Same HC H4 := d4.same (s2.trans s3) (free_of s2 hw)
        obtain ⟨n, rfl⟩ := Int.eq_ofNat_of_zero_le hk0
        have hn9 : n < 9 := by omega
        obtain ⟨p, hp⟩ : ∃ p, ps[n]? = some p := ⟨_, List.getElem?_eq_getElem (by omega)⟩
        obtain ⟨days, hs, ls, rs, y1, y2, y3, y4, y5⟩ := r7 p (List.mem_of_getElem? hp)
        have hh := y1.hd
        have hp1 : (ps.map fun p => V.ref p.1)[n]? = some (.ref p.1) := by rw [List.getElem?_map, hp]; rfl
        have hp2 : (ps.map fun p => V.ref p.2)[n]? = some (.ref p.2) := by rw [List.getElem?_map, hp]; rfl
        walk_at "go"
        refine v_ixL (SqL.of (c4.at_ r4)) (atI_nat hp2) ?_
        walk_at "go"
        obtain ⟨fa, fxs, ee, q1, q2⟩ := dp_lst y2
        injection ee with ee
        subst ee
        obtain ⟨x0, xr, rfl, q3, q2⟩ := dpall_cons q2
        obtain ⟨x1, xr, rfl, q4, q2⟩ := dpall_cons q2
        obtain ⟨hl, va, rfl, hhl, hda⟩ := dp_lst q4
        refine v_ixL (c4.seq q1) (atI_nat (j := 1) rfl) ?_
        walk_at "go"
        refine v_lenL (c4.seq hhl) ?_
        walk_at "go"
        rw [DpAll.len hda, List.length_map]
        have hh0 : 0 < hs.length := List.length_pos_iff.mpr hh.ne
        have hh8 := hh.le
        refine use_draw (n := (hs.length : Int)) d4.well (by omega) (by omega) fun r8 H5 hr80 hr81 d5 => ?_
        have d45 := d4.trans d5
        have c5 : Same H1 H5 := d45.same c3 (free_of c2 hw)
        have cc5 : Same HC H5 := d45.same (s2.trans s3) (free_of s2 hw)
        obtain ⟨m, rfl⟩ := Int.eq_ofNat_of_zero_le hr80
        have hm8 : m < hs.length := by omega
        obtain ⟨pr, hpr⟩ : ∃ pr, hs[m]? = some pr := ⟨_, List.getElem?_eq_getElem hm8⟩
        have hvm : m < va.length := by rw [DpAll.len hda, List.length_map]; exact hm8
        obtain ⟨xv, hxv⟩ : ∃ xv, va[m]? = some xv := ⟨_, List.getElem?_eq_getElem hvm⟩
        obtain ⟨pr2, tt, hpr2, rfl, htt⟩ := heads_at (DpAll.same c5 hda) hxv
        obtain rfl : pr2 = pr := by rw [hpr] at hpr2; injection hpr2 with e; exact e.symm
        refine v_ixL (c5.seq hhl) (atI_nat hxv) ?_
        walk_at "go"
        refine v_ixT htt (atI_nat (j := 0) rfl) ?_
        walk_at "go"
        have hmem : pr2.1 ∈ hs.map (·.1) := List.mem_map.mpr ⟨pr2, List.mem_of_getElem? hpr, rfl⟩
        refine v_ixL (SqL.of (c5.at_ r3)) (atI_nat hp1) ?_
        walk_at "go"
        refine ym_under (y1.same c5) ?_
        walk_at "go"
        refine use_under (y1.same c5) y3 hmem fun ul H6 hul e6 w6 => ?_
        walk_at "go"
        have c6 := c5.trans e6
        refine use_lall [] (c6.seq hhl) (DpAll.same c6 hda) hh (fun x hx => nomatch hx) fun al vl H7 hal e7 w7 hdl => ?_
        walk_at "go"
        have c7 := c6.trans e7
        refine s_isL ?_
        walk_at "go"
        refine ⟨hl, rfl, ⟨_, c7.seq hhl⟩, fun D hD => lc_it (walk_list (xs := va)) (fun i H' => Same H7 H' ∧ H' D = some (.lst (((hs.take i).map (·.1)).map V.str))) ?_ (fun _ _ _ h => h.1.seq (c7.seq hhl)) ?_ ?_⟩
        · exact ⟨Same.new hD, upd_same⟩
        · rintro i x H8 H8' hi ⟨s8, q8⟩ ⟨rfl, hx⟩
          obtain ⟨pq, t, hpq, rfl, ht⟩ := heads_at (DpAll.same (c7.trans s8) hda) hx
          refine s_gsT ht rfl ?_
          walk_at "go"
          refine ⟨_, q8, ?_, s8.mut hD, ?_⟩
          · rw [List.length_map, List.length_map]
            exact Nat.lt_of_le_of_lt (List.length_take_le' _ _) (Nat.lt_of_le_of_lt hh.le (by decide))
          · rw [upd_same, List.take_add_one, hpq, List.map_append, List.map_append]
            rfl
        rintro H8 ⟨s8, q8⟩
        rw [DpAll.len hda, List.length_map, List.take_length] at q8
        refine ⟨.inl ⟨rfl, _, SqL.of q8⟩, ?_⟩
        walk_at "go"
        have hnm : ((hs.map (·.1)).map V.str)[m]? = some (.str pr2.1) := by rw [List.getElem?_map, List.getElem?_map, hpr]; rfl
        refine ⟨D, _, .str pr2.1, m, .str pr2.1, rfl, rfl, SqL.of q8, rfl, flat_str, hnm, by simp [eqV], ?_, ?_⟩
        · intro m' z' hm' hz'
          rw [List.getElem?_map, List.getElem?_map] at hz'
          obtain ⟨pm, hpm, rfl⟩ := Option.map_eq_some_iff.mp hz'
          obtain ⟨pm', hpm', rfl⟩ := Option.map_eq_some_iff.mp hpm
          have hne : ¬ pm'.1 = pr2.1 := ho_ne hh.ok hpm' hpr hm'
          simp [eqV, hne]
        obtain ⟨xt, hxt⟩ : ∃ xt, vl[m]? = some xt := ⟨_, List.getElem?_eq_getElem (by rw [DpAll.len hdl, allD_is, List.length_map]; exact hm8)⟩
        obtain ⟨dt, hdt, hdp⟩ := DpAll.at_ hdl hxt
        rw [allD_is, List.getElem?_map, hpr] at hdt
        injection hdt with hdt
        subst hdt
        have s7b : Same (hidL [] H7) H8 := hidL_le.trans s8
        have hdp8 := Dp.same s7b hdp
        obtain ⟨ta, txs, rfl, g1, g2⟩ := dp_tup hdp8
        obtain ⟨z0, zr, rfl, _, g2⟩ := dpall_cons g2
        obtain ⟨z1, zr, rfl, _, g2⟩ := dpall_cons g2
        obtain ⟨z2, zr, rfl, g3, g2⟩ := dpall_cons g2
        refine v_ixL (SqL.of (s8.at_ w7)) (atI_nat hxt) ?_
        walk_at "go"
        refine v_ixT g1 (atI_nat (j := 2) rfl) ?_
        have c8 := c7.trans s8
        refine v_neR (d := strsD (underN hs pr2.1)) (.lst (SqL.of (s8.at_ (e7.at_ w6))) DpAll.strs) g3 ((strs_fit fun s hs' => y3 s (under_in s hs')).fit (by omega)) ?_
        walk_at "go"
        refine s_isL ?_
        walk_at "go"
        refine v_lenL (SqL.of (c8.at_ r3)) ?_
        walk_at "go"
        rw [List.length_map, r5]
        have dw8 : WellAt H8 w := by
          obtain ⟨x, y, z, e⟩ := d45.well
          exact ⟨x, y, z, (e6.trans (e7.trans s8)).at_ e⟩
        refine use_draw (n := (9 : Nat)) dw8 (by decide) (by decide) fun r9 H9 hr90 hr91 d9 => ?_
        have cc8 : Same HC H8 := cc5.trans (e6.trans (e7.trans s8))
        have cc9 : Same HC H9 := d9.same cc8 (free_of s2 hw)
        have c9 : Same H1 H9 := d9.same c8 (free_of c2 hw)
        obtain ⟨n9, rfl⟩ := Int.eq_ofNat_of_zero_le hr90
        have hn99 : n9 < 9 := by omega
        walk_at "go"
        refine ⟨by show 3 ≤ sizeLine; decide, fun pa hpa => ?_⟩
        have cA := Same.new (o := .lst [.int n, .int n9, .int n]) hpa
        have qa : (upd H9 pa (.lst [.int n, .int n9, .int n])) pa = some (.lst [.int n, .int n9, .int n]) := upd_same
        have cA1 := c9.trans cA
        have cA2 := cc9.trans cA
        generalize upd H9 pa (.lst [.int n, .int n9, .int n]) = HG at *
        refine ⟨pa, rfl, ⟨_, SqL.of qa⟩, ?_⟩
        refine for_it (walk_list (xs := [V.int n, .int n9, .int n])) (fun i σ H' => (∃ v3 v4 v5 v6 v7 v8 v9 v10 v11 v12 v13 v14 v15, σ = [some (.ref a), some (.ref ly), some (.ref ld), v3, v4, v5, v6, v7, v8, v9, v10, v11, v12, v13, v14, v15]) ∧ Same HG H') ?_ (fun _ _ _ _ h => SqL.of (h.2.at_ qa)) ?_ ?_
        · exact ⟨⟨_, _, _, _, _, _, _, _, _, _, _, _, _, rfl⟩, Same.refl _⟩
        · rintro j x σ G0 G0' hj ⟨⟨v3, v4, v5, v6, v7, v8, v9, v10, v11, v12, v13, v14, v15, rfl⟩, sg⟩ ⟨rfl, hx⟩
          obtain ⟨b, hb, rfl⟩ : ∃ b : Nat, b < 9 ∧ x = .int b := by
            have hm := List.mem_of_getElem? hx
            rcases (show x = .int n ∨ x = .int n9 ∨ x = .int n by simpa using hm) with rfl | rfl | rfl
            · exact ⟨n, hn9, rfl⟩
            · exact ⟨n9, hn99, rfl⟩
            · exact ⟨n, hn9, rfl⟩
          obtain ⟨pb, hpb⟩ : ∃ p, ps[b]? = some p := ⟨_, List.getElem?_eq_getElem (by omega)⟩
          have cg := cA1.trans sg
          obtain ⟨days', hs', ls', rs', u1, u2, u3, u4, u5⟩ := (r7 pb (List.mem_of_getElem? hpb)).same cg
          walk_at "go"
          refine v_ixL (SqL.of (cg.at_ r3)) (atI_nat (v := .ref pb.1) (by rw [List.getElem?_map, hpb]; rfl)) ?_
          walk_at "go"
          refine use_lasked u1 u3 fun f G1 s5 hf => ?_
          walk_at "go"
          refine v_ixL (SqL.of (s5.at_ (cg.at_ r4))) (atI_nat (v := .ref pb.2) (by rw [List.getElem?_map, hpb]; rfl)) ?_
          refine v_neR hf (Dp.same s5 u2) (due_fit u1.hd u3 u4 u5) ?_
          walk_at "go"
          exact ⟨⟨_, _, _, _, _, _, _, _, _, _, _, _, _, rfl⟩, sg.trans s5⟩
        · rintro σ G0 ⟨⟨v3, v4, v5, v6, v7, v8, v9, v10, v11, v12, v13, v14, v15, rfl⟩, sg⟩
          exact ⟨⟨_, _, _, _, _, _, _, _, _, _, _, _, _, rfl⟩, cA2.trans sg⟩
      · rintro σ H2 ⟨⟨v3, v4, v5, v6, v7, v8, v9, v10, v11, v12, v13, v14, v15, rfl⟩, s2⟩
        walk_at "go"
        exact k _
end
end Kn

theorem PySem.Challenge.cw_knotpurse_k08_whole_years_by_turns_holds : PySem.Challenge.rw_knotpurse_k08_whole_years_by_turns.Holds :=
  Kn.closeA fun _ _ _ _ T => Kn.ok_law T
