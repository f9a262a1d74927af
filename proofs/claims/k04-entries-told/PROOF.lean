import PyProof.Rows.All
import Wide.All
import OpenK.AllK
import Wide.FinOn
import KE.KStateDown
import Lean
import HandS.ForMost
import HandS.ForExc
import HandS.Defaults
import HandS.Head0
import HandS.Head1
import HandS.Head2
import HandS.HeadEnd
import HandS.HeadHook1
import HandS.HeadHook2
import HandS.HeadHook3
import HandS.EndBits
import HandS.IsInst
import HandS.StrMore
import HandS.Wide
import HandS.Walk
import HandS.Style
import HandS.Flow
import HandS.More
import HandS.SuiteRaise
import HandS.TryMany
import PySem.Challenge.RW_knotpurse_k04_entries_told
set_option Elab.async false
set_option linter.all false
set_option maxRecDepth 100000
set_option maxHeartbeats 2000000
namespace Kn
open PySem PySem.Spec PyProof.Rows L2

/-! ## defs by name -/
structure DefOk (P : Program) (w : World) (K : PySem.W.Frag) (mg : Str → Option Value) (base : Heap) (k : Nat) (p : Str × Option Str) (ps : List Str) (sp : Sp) : Prop where
  ex : ∃ fd, FnOk P w K mg base (L2.CX P w) k (He.fAd K p) fd ps sp ∧ Binds K fd ps [] ∧ ∃ oc od osl, K.lookup (He.fAd K p) = some ⟨oc, od, .func fd, osl⟩
  kp : PySem.W.keepIn K (.ref (He.fAd K p)) = true
theorem DefOk.mono {P w K mg base j k p ps sp} (G : DefOk P w K mg base j p ps sp) (h : j ≤ k) : DefOk P w K mg base k p ps sp := by
  obtain ⟨⟨fd, F, b, lk⟩, kp⟩ := G
  exact ⟨⟨fd, F.mono h, b, lk⟩, kp⟩

section
variable {X : Cx} {x m : Str} {e o : Expr} {es : List Expr} {t : TA} {p pos apos : Pos} {k : Nat} {ps : List Str} {sp : Sp} {E : XK} {ta : TE}
theorem kc (G : DefOk X.prog X.w X.K X.mg X.base k (x, none) ps sp) (hm : X.mg x = some (.ref (He.ga X.K x))) (hr : Room k X.A) (hx : Passes (L2.CX X.prog X.w) X E) (ha : PA X (e :: es) t) (hg : Gl X x := by rfl)
    (hdb : (x == ("__debug__" : Str)) = false := by decide) (he : starEach (e :: es) X.env = (false, eval e X.env) :: starEach es X.env := by rfl) (hpl : (backTo pos (starEach es X.env)).any (·.1) = false := by rfl) :
    PE X (.Call (.Name x p) (e :: es) [] pos) (tCall sp [] E t) := by
  obtain ⟨⟨fd, F, b, _⟩, kp⟩ := G
  exact pe_call F hr hg hm kp b .nil hx ha hdb he hpl
theorem kc0 (G : DefOk X.prog X.w X.K X.mg X.base k (x, none) ps sp) (hm : X.mg x = some (.ref (He.ga X.K x))) (hr : Room k X.A) (hx : Passes (L2.CX X.prog X.w) X E) (hg : Gl X x := by rfl)
    (hdb : (x == ("__debug__" : Str)) = false := by decide) :
    PE X (.Call (.Name x p) [] [] pos) (tCall sp [] E tNil) := by
  obtain ⟨⟨fd, F, b, _⟩, kp⟩ := G
  exact pe_call0 F hr hg hm kp b .nil hx hdb
/-- a new instance of the class x by its own __init__ -/
theorem kmk {ik : Str} (M : Mk X.K (He.ga X.K x) (He.ma X.K (He.ga X.K x) "__init__")) (G : DefOk X.prog X.w X.K X.mg X.base k (x, some "__init__") ps sp) (hm : X.mg x = some (.ref (He.ga X.K x))) (hr : Room (k + 1) X.A) (hx : Passes (L2.CX X.prog X.w) X E)
    (ha : PA X (e :: es) t) (hg : Gl X x := by rfl) (hdb : (x == ("__debug__" : Str)) = false := by decide)
    (he : starEach (e :: es) X.env = (false, eval e X.env) :: starEach es X.env := by rfl) (hpl : (backTo pos (starEach es X.env)).any (·.1) = false := by rfl) :
    PE X (.Call (.Name x p) (e :: es) [] pos) (tMake (He.ga X.K x) sp [] E t) := by
  obtain ⟨⟨fd, F, b, _⟩, kp⟩ := G
  exact pe_make M F hr hg hm b .nil hx ha hdb he hpl
end
/-- the ways of a method: the classes that have it, each with its promise -/
structure Way (P : Program) (w : World) (K : PySem.W.Frag) (mg : Str → Option Value) (base : Heap) (k : Nat) (m : Str) (C : Addr) (sp : Sp) : Prop where
  c : Cls K C
  ex : ∃ f fd ps, Meth K C m f ∧ FnOk P w K mg base (L2.CX P w) k f fd ps sp ∧ Binds K fd ps []
def tMethA (cs : Addr → Sp → Prop) (m : Str) (E : XK) (ta : TE) (t : TA) : TE := fun σ H Q => ta σ H fun x H1 => ∃ a C dx fs sp, x = .ref a ∧ H1 a = some (.ins C dx fs) ∧ cs C sp ∧ fs.lookup m = none ∧ t σ H1 fun vs H2 => sp (x :: vs) H2 Q E
section
variable {X : Cx} {x m : Str} {e o : Expr} {es : List Expr} {t : TA} {p pos apos : Pos} {k : Nat} {E : XK} {ta : TE} {cs : Addr → Sp → Prop}
theorem kme {pl : Sem Bool} (he : PE X o ta) (hw : ∀ C sp, cs C sp → Way X.prog X.w X.K X.mg X.base k m C sp) (hr : Room k X.A) (hx : Passes (L2.CX X.prog X.w) X E) (ha : PA X (e :: es) t)
    (hst : starEach (e :: es) X.env = (false, eval e X.env) :: starEach es X.env := by rfl) (hpl : (backTo pos (starEach es X.env)).any (·.1) = false := by rfl)
    (ht : eval (.Call (.Attribute o m apos) (e :: es) [] pos) X.env = (eval o X.env >>= fun ov => standAt apos.atName >>= fun _ => holding [ov] (getMethod ov m pl) >>= fun z => callWith pos z.1 z.2 (backTo pos (starEach (e :: es) X.env)) (backToKw pos (keywordEach [] X.env))) := by rfl) :
    PE X (.Call (.Attribute o m apos) (e :: es) [] pos) (tMethA cs m E ta t) := by
  refine ⟨fun pins s σ H Q I h => ?_⟩
  refine PySem.W.methodCall_KW (pl := pl) (thn (he.run pins s σ H _ I h) fun u s1 ⟨x, H1, I1, rx, a, C, dx, fs, sp, ex, ea, hc, l, q⟩ => ?_) ht
  obtain ⟨c, f, fd, ps, hm, F, hb⟩ := hw C sp hc
  subst ex
  obtain rfl : u = Value.ref a := rx
  refine getmeth_ok I1 ea c hm l ?_
  refine PySem.W.callWith_K (first := [.ref a]) (h₀ := X.base) I.ok.mod.kin hm.kp (thn (ha.run pos pins s1 σ H1 _ I1 q) fun us s2 ⟨vs, H2, I2, r, q2⟩ => ⟨I2.kIn, ?_⟩) hst hpl
  exact run_fn (us := .ref a :: us) (vs := .ref a :: vs) (dvs := []) (ds := []) F hr hb .nil hx I2 (.cons rfl r) (by simpa using q2)
theorem kme0 {pl : Sem Bool} (he : PE X o ta) (hw : ∀ C sp, cs C sp → Way X.prog X.w X.K X.mg X.base k m C sp) (hr : Room k X.A) (hx : Passes (L2.CX X.prog X.w) X E)
    (ht : eval (.Call (.Attribute o m apos) [] [] pos) X.env = (eval o X.env >>= fun ov => standAt apos.atName >>= fun _ => holding [ov] (getMethod ov m pl) >>= fun z => callWith pos z.1 z.2 (backTo pos (starEach [] X.env)) (backToKw pos (keywordEach [] X.env))) := by rfl) :
    PE X (.Call (.Attribute o m apos) [] [] pos) (tMethA cs m E ta tNil) := by
  refine ⟨fun pins s σ H Q I h => ?_⟩
  refine PySem.W.methodCall_KW (pl := pl) (thn (he.run pins s σ H _ I h) fun u s1 ⟨x, H1, I1, rx, a, C, dx, fs, sp, ex, ea, hc, l, q⟩ => ?_) ht
  obtain ⟨c, f, fd, ps, hm, F, hb⟩ := hw C sp hc
  subst ex
  obtain rfl : u = Value.ref a := rx
  refine getmeth_ok I1 ea c hm l ?_
  exact PySem.W.callWith_K0 (first := [.ref a]) I1.kIn hm.kp (run_fn (us := [.ref a]) (vs := [.ref a]) (dvs := []) (ds := []) F hr hb .nil hx I1 (.cons rfl .nil) q)
end

/-! ## either of two rules -/
section
variable {X : Cx}
theorem pe_or {e : Expr} {t1 t2 : TE} (h1 : PE X e t1) (h2 : PE X e t2) : PE X e (fun σ H Q => t1 σ H Q ∨ t2 σ H Q) :=
  ⟨fun pins s σ H Q I h => h.elim (h1.run pins s σ H Q I) (h2.run pins s σ H Q I)⟩
theorem pi_or {tg e : Expr} {t1 t2 : TI} (h1 : PI X tg e t1) (h2 : PI X tg e t2) : PI X tg e (fun σ H R => t1 σ H R ∨ t2 σ H R) := by
  refine ⟨fun pins s σ H R I h => ?_⟩
  rcases h with h | h
  · exact h1.run pins s σ H R I h
  · exact h2.run pins s σ H R I h
theorem opr_or {f : Value → Value → Sem Value} {r1 r2 : R2} (h1 : OpR X f r1) (h2 : OpR X f r2) : OpR X f (fun x y H Q => r1 x y H Q ∨ r2 x y H Q) := by
  intro pins s σ H x y v u Q I rx ry h
  rcases h with h | h
  · exact h1 pins s σ H x y v u Q I rx ry h
  · exact h2 pins s σ H x y v u Q I rx ry h
/-! ## operations whatever the kinds -/
def rAddI : R2 := rI0 fun i j => .int (i + j)
def rAddS : R2 := fun x y H Q => ∃ i j, x = .str i ∧ y = .str j ∧ i.length + j.length ≤ sizeLine ∧ Q (.str (i ++ j)) H
def rAddX : R2 := fun x y H Q => rAddI x y H Q ∨ rAddS x y H Q ∨ rCat x y H Q
theorem kAdd : OpR X (binaryOp .Add) rAddX := opr_or op_add (opr_or op_add_str op_cat)
def rSubI : R2 := rI0 fun i j => .int (i - j)
theorem kSub : OpR X (binaryOp .Sub) rSubI := op_sub
def rMulI : R2 := rI CMul fun i j => .int (i * j)
def rMulX : R2 := fun x y H Q => rMulI x y H Q ∨ rI CMulW (fun i j => .int (i * j)) x y H Q ∨ rRep x y H Q
theorem kMul : OpR X (binaryOp .Mult) rMulX := opr_or op_mul (opr_or op_mulW op_rep)
def rDivX : R2 := rI CDivW fun i j => .int (i / j)
theorem kDiv : OpR X (binaryOp .FloorDiv) rDivX := op_fdivW
def rModX : R2 := rI (fun _ j => j ≠ 0) fun i j => .int (i.fmod j)
theorem kMod : OpR X (binaryOp .Mod) rModX := op_modN
def rPowX : R2 := rI CPow fun i j => .int (i ^ j.toNat)
theorem kPow : OpR X (binaryOp .Pow) rPowX := op_pow
def rLtI : R2 := rI0 fun i j => .bl (decide (i < j))
def rLeI : R2 := rI0 fun i j => .bl (decide (i ≤ j))
def rGtI : R2 := rI0 fun i j => .bl (decide (j < i))
def rGeI : R2 := rI0 fun i j => .bl (decide (j ≤ i))
theorem kLt : OpR X (compareOp .Lt) rLtI := op_lt
theorem kLe : OpR X (compareOp .LtE) rLeI := op_le
theorem kGt : OpR X (compareOp .Gt) rGtI := op_gt
theorem kGe : OpR X (compareOp .GtE) rGeI := op_ge
def rEqX (K : PySem.W.Frag) : R2 := fun x y H Q => rEq x y H Q ∨ rEqD K x y H Q
def rNeX (K : PySem.W.Frag) : R2 := fun x y H Q => rNe x y H Q ∨ rNeD K x y H Q
theorem kEq {k : Nat} (hr : Room k X.A) : OpR X (compareOp .Eq) (rEqX X.K) := opr_or op_eq (op_eqD hr.units)
theorem kNe {k : Nat} (hr : Room k X.A) : OpR X (compareOp .NotEq) (rNeX X.K) := opr_or op_ne (op_neD hr.units)
def rInS : R2 := fun x y H Q => ∃ i j, x = .str i ∧ y = .str j ∧ Q (.bl (!(Builtin.Str.occurrences j i 0 j.length 1).isEmpty)) H
def rNotInS : R2 := fun x y H Q => ∃ i j, x = .str i ∧ y = .str j ∧ Q (.bl (!(!(Builtin.Str.occurrences j i 0 j.length 1).isEmpty))) H
def rInX (K : PySem.W.Frag) : R2 := fun x y H Q => rIn K false x y H Q ∨ rInS x y H Q
def rNotInX (K : PySem.W.Frag) : R2 := fun x y H Q => rIn K true x y H Q ∨ rNotInS x y H Q
theorem kIn : OpR X (compareOp .In) (rInX X.K) := opr_or op_in_seq op_in_str
theorem kNotIn : OpR X (compareOp .NotIn) (rNotInX X.K) := opr_or op_notIn_seq op_notin_str
def rIsX : R2 := fun x y H Q => y = .non ∧ Q (.bl (decide (x = .non))) H
def rIsNotX : R2 := fun x y H Q => y = .non ∧ Q (.bl (!decide (x = .non))) H
theorem kIs : OpR X (compareOp .Is) rIsX := op_isN
theorem kIsNot : OpR X (compareOp .IsNot) rIsNotX := op_notN
def rLenX (K : PySem.W.Frag) : List V → Hp → VK → Prop := fun xs H Q => ∃ x n, xs = [x] ∧ LenV K x H n ∧ Q (.int n) H
theorem kLen : CallR X (.builtin "len") (rLenX X.K) := call_len
def rInt1 : List V → Hp → VK → Prop := fun xs H Q => (∃ i, xs = [.int i] ∧ Q (.int i) H) ∨ ∃ k, xs = [.bl k] ∧ Q (.int (if k then 1 else 0)) H
theorem kInt1 : CallR X (.type "int") rInt1 := call_int1
def rListOf (K : PySem.W.Frag) : List V → Hp → VK → Prop := fun xs H Q => ∃ p ys, xs = [.ref p] ∧ (SqL K H p ys ∨ SqT K H p ys) ∧ ∀ l, H l = none → Q (.ref l) (upd H l (.lst ys))
theorem kListOf : CallR X (.type "list") (rListOf X.K) := call_list_of
def rStrip : V → List V → Hp → VK → Prop := fun x xs H Q => ∃ a b, x = .str a ∧ xs = [.str b] ∧ a.length ≤ sizeLine ∧ Q (.str (Txt.stripChars a b)) H
theorem kStrip : MtR X "str.strip" rStrip := mt_stripChars
def rJoin (K : PySem.W.Frag) : V → List V → Hp → VK → Prop := fun x xs H Q => ∃ a p, ∃ ys : List Str, x = .str a ∧ xs = [.ref p] ∧ (SqL K H p (ys.map V.str) ∨ SqT K H p (ys.map V.str)) ∧ (ys.map (·.length)).sum + ys.length * a.length ≤ 16777216 ∧ Q (.str (Txt.join a ys)) H
theorem kJoin : MtR X "str.join" (rJoin X.K) := mt_join
end
/-! ## bodies -/
section
variable {w : World} {P : Program} {mg : Str → Option Value} {K : PySem.W.Frag} {base : Heap}
theorem pB {N : List Str} {qual : Str} {scope : Scope} {f : Addr} {cd : Value} {A : Around} {outer : List Env} {s : Shared} {H : Hp} {E : XK} :
    Passes (L2.CX P w) (cxOf (L2.CX P w) P w K mg base N qual scope f cd A outer s H E) E :=
  passes_call (X := cxOf (L2.CX P w) P w K mg base N qual scope f cd A outer s H E) (W := fun cls d _ H => E cls d H) (takes_of rfl rfl rfl rfl) fun _ _ _ _ h => h
theorem mkOk {x qual : Str} {q : Str × Option Str} {params : Arguments} {body : List Stmt} {scope : Scope} {N ps : List Str} {k : Nat} {sp : Sp}
    (h : ∃ fd, FunD K x qual params body scope [] [] (He.fAd K q) fd) (S : FnScope N ps scope) (len : ∀ vs H Q E, sp vs H Q E → vs.length = ps.length)
    (b : ∀ (kV doc pm : Value) (an : Option Addr) (cdv ct : Value) (us : List Value), us.length = ps.length → bindArgs (PySem.W.fnOf x qual params body scope .none kV doc pm an cdv ct) ⟨us, []⟩ = pure (ps.zip us))
    (hbody : ∀ (cdv : Value) (A : Around) (outer : List Env) (s : Shared) (H : Hp) (vs : List V) (Q : VK) (E : XK), Room k (A.deeper (envOfC qual scope s.heap.objs.size (He.fAd K q) cdv)) → sp vs H Q E →
      ∃ t, PSs (cxOf (L2.CX P w) P w K mg base N qual scope (He.fAd K q) cdv A outer s H E) body t ∧ t { nx := fun _ H' => Q .non H', rt := Q } (start N vs) H) :
    DefOk P w K mg base (k + 1) q ps sp := by
  obtain ⟨fd, F⟩ := h
  obtain ⟨oc, od, dV, kV, doc, pm, an, cdv, ct, osl, _, lk, _⟩ := id F.ex
  exact ⟨⟨fd, F.ok S len hbody, F.bindsN b, oc, od, osl, lk⟩, F.kp⟩
end
end Kn

set_option Elab.async false
set_option linter.all false
set_option maxRecDepth 100000
set_option maxHeartbeats 2000000
namespace Kn
open PySem PySem.Spec PyProof.Rows L2
/-! ## names of the module -/
section
variable {X : Cx} {x : Str} {pos : Pos}
theorem kgI {i : Int} (h : ∃ t, X.mg x = some (.int i t)) (hg : Gl X x := by rfl) (hd : (x == ("__debug__" : Str)) = false := by decide) : PE X (.Name x pos) (tC (.int i)) := by
  obtain ⟨t, h⟩ := h
  exact pe_glob hg h ⟨t, rfl⟩ hd
theorem kgS {z : Str} (h : ∃ t, X.mg x = some (.str z t)) (hg : Gl X x := by rfl) (hd : (x == ("__debug__" : Str)) = false := by decide) : PE X (.Name x pos) (tC (.str z)) := by
  obtain ⟨t, h⟩ := h
  exact pe_glob hg h ⟨t, rfl⟩ hd
theorem kgR {a : Addr} (h : X.mg x = some (.ref a)) (hg : Gl X x := by rfl) (hd : (x == ("__debug__" : Str)) = false := by decide) : PE X (.Name x pos) (tC (.ref a)) := pe_glob hg h rfl hd
theorem kbT {n : String} (hm : X.mg x = none) (hv : bootBuiltins x = some (.type n)) (hg : Gl X x := by rfl) (hn : x ≠ "__name__" := by decide) (hd : (x == ("__debug__" : Str)) = false := by decide) : PE X (.Name x pos) (tC (.ty n)) :=
  pe_bltn hg hm hv rfl hn hd
/-! ## targets, slices -/
theorem pg_or {e : Expr} {t1 t2 : TG} (h1 : PG X e t1) (h2 : PG X e t2) : PG X e (fun v σ H Q => t1 v σ H Q ∨ t2 v σ H Q) := by
  refine ⟨fun pins s σ H v u Q I r h => ?_⟩
  rcases h with h | h
  · exact h1.run pins s σ H v u Q I r h
  · exact h2.run pins s σ H v u Q I r h
def gSeq (K : PySem.W.Frag) (n : Nat) (t : TGs) : TG := fun v σ H Q => gTup K n t v σ H Q ∨ gLst K n t v σ H Q
theorem kgTup {es : List Expr} {k : Nat} {t : TGs} {n : Nat} (hc : X.calm = true) (h : PGs X es t) (hn : (assignEach es X.env).length = n := by rfl) (hst : (assignEach es X.env).findIdx? (·.1) = none := by rfl) :
    PG X (.Tuple es k pos) (gSeq X.K n t) := pg_or (pg_tup hc h hn hst) (pg_lst hc h hn hst)
def rSlX (K : PySem.W.Frag) : V → Option Int → Option Int → Hp → VK → Prop := fun x lo hi H Q => rSlL K x lo hi H Q ∨ rSlS x lo hi H Q
theorem kSl : SlR X (rSlX X.K) := SlR.or sl_list sl_str
end
/-! ## the same, K told -/
section
variable {X : Cx}
theorem eqK (K : PySem.W.Frag) (h : X.K = K) {k : Nat} (hr : Room k X.A) : OpR X (compareOp .Eq) (rEqX K) := h ▸ kEq hr
theorem neK (K : PySem.W.Frag) (h : X.K = K) {k : Nat} (hr : Room k X.A) : OpR X (compareOp .NotEq) (rNeX K) := h ▸ kNe hr
theorem inK (K : PySem.W.Frag) (h : X.K = K) : OpR X (compareOp .In) (rInX K) := h ▸ kIn
theorem niK (K : PySem.W.Frag) (h : X.K = K) : OpR X (compareOp .NotIn) (rNotInX K) := h ▸ kNotIn
theorem ixK (K : PySem.W.Frag) (h : X.K = K) : IxR X (rIx K) := h ▸ ix_seq
theorem slK (K : PySem.W.Frag) (h : X.K = K) : SlR X (rSlX K) := h ▸ kSl
theorem lenK (K : PySem.W.Frag) (h : X.K = K) : CallR X (.builtin "len") (rLenX K) := h ▸ kLen
theorem isiK (K : PySem.W.Frag) (h : X.K = K) : CallR X (.builtin "isinstance") (rIsi K) := h ▸ call_isi
theorem isiTK (K : PySem.W.Frag) (h : X.K = K) : CallR X (.builtin "isinstance") (rIsiT K) := h ▸ call_isiT
theorem listK (K : PySem.W.Frag) (h : X.K = K) : CallR X (.type "list") (rListOf K) := h ▸ kListOf
theorem allK (K : PySem.W.Frag) (h : X.K = K) (hc : X.calm = true) : CallR X (.builtin "all") (rAll K) := h ▸ cr_all hc
theorem joinK (K : PySem.W.Frag) (h : X.K = K) : MtR X "str.join" (rJoin K) := h ▸ kJoin
theorem plK (K : PySem.W.Frag) (h : X.K = K) {tg l : Expr} {tl : TE} (hl : PE X l tl) : PI X tg l (iList K tl) := h ▸ pi_list hl
theorem ptK (K : PySem.W.Frag) (h : X.K = K) {tg l : Expr} {tl : TE} (hl : PE X l tl) : PI X tg l (iTup K tl) := h ▸ pi_tup hl
def iSeq (K : PySem.W.Frag) (tl : TE) : TI := fun σ H R => iList K tl σ H R ∨ iTup K tl σ H R
theorem psqK (K : PySem.W.Frag) (h : X.K = K) {tg l : Expr} {tl : TE} (hl : PE X l tl) : PI X tg l (iSeq K tl) := pi_or (plK K h hl) (ptK K h hl)
theorem fldK (K : PySem.W.Frag) (h : X.K = K) {e : Expr} {f : Str} {pos : Pos} {ta : TE} (ha : PE X e ta) (hb : attributeBase e f X.env (eval e X.env) = eval e X.env) : PE X (.Attribute e f pos) (tFld K ta f) := h ▸ pe_fld ha hb
theorem psfK (K : PySem.W.Frag) (h : X.K = K) {o value : Expr} {f : Str} {pos pos' : Pos} {ta tv : TE} (ha : PE X o ta) (hv : PE X value tv) (hs : swapsWith value (some (.Attribute o f pos')) pos.line X.env = pure false) : PS X (.Assign [.Attribute o f pos'] value pos) (sFld K ta tv f) := h ▸ ps_fld ha hv hs
theorem gtK (K : PySem.W.Frag) (h : X.K = K) {es : List Expr} {k : Nat} {t : TGs} {n : Nat} {pos : Pos} (hc : X.calm = true) (hp : PGs X es t) (hn : (assignEach es X.env).length = n := by rfl) (hst : (assignEach es X.env).findIdx? (·.1) = none := by rfl) :
    PG X (.Tuple es k pos) (gSeq K n t) := h ▸ kgTup hc hp hn hst
theorem revK (K : PySem.W.Frag) (h : X.K = K) {e : Expr} {te : TE} {k : Nat} {p1 p2 p3 pos : Pos} (he : PE X e te) : PE X (.Subscript e (.Slice none none (some (.UnaryOp .USub (.Constant (.int 1) k p1) p2)) p3) pos) (tRevL K te) := h ▸ pe_revL he
theorem bmK (K : PySem.W.Frag) (h : X.K = K) {T id : String} {nm : Str} {o e : Expr} {es : List Expr} {r : V → List V → Hp → VK → Prop} {to : TE} {t : TA} {apos cpos : Pos} (pa : PlainAttrs T) (slot : Slot T nm id) (hty : typeOf (.builtin id) = pure (.type "method_descriptor")) (hm : MtR X id r) (ho : PE X o to) (ha : PA X (e :: es) t)
    (hbase : attributeBase o nm X.env (eval o X.env) = eval o X.env := by rfl)
    (hfew : ((backTo cpos (starEach (e :: es) X.env)).all (fun x => !x.1) && (backToKw cpos (keywordEach [] X.env)).all (fun x => x.1.isSome)
      && decide ((e :: es).length + ([] : List Keyword).length + (if ([] : List Keyword).isEmpty then 0 else 1) < 30)) = true := by rfl)
    (hline : (apos.endLine == cpos.line) = true := by rfl) (hs : starEach (e :: es) X.env = (false, eval e X.env) :: starEach es X.env := by rfl) (hplain : (backTo cpos (starEach es X.env)).any (·.1) = false := by rfl) :
    PE X (.Call (.Attribute o nm apos) (e :: es) [] cpos) (tBM K T r to t) := h ▸ pe_bm pa slot hty hm ho ha hbase hfew hline hs hplain
theorem bm0K (K : PySem.W.Frag) (h : X.K = K) {T id : String} {nm : Str} {o : Expr} {r : V → List V → Hp → VK → Prop} {to : TE} {apos cpos : Pos} (pa : PlainAttrs T) (slot : Slot T nm id) (hty : typeOf (.builtin id) = pure (.type "method_descriptor")) (hm : MtR X id r) (ho : PE X o to)
    (hbase : attributeBase o nm X.env (eval o X.env) = eval o X.env := by rfl) (hline : (apos.endLine == cpos.line) = true := by rfl) : PE X (.Call (.Attribute o nm apos) [] [] cpos) (tBM0 K T r to) := h ▸ pe_bm0 pa slot hty hm ho hbase hline
end
/-! ## a written dict: keys that are texts -/
structure KTab (K : PySem.W.Frag) (w : World) (d : Addr) (tab : List (Str × V)) : Prop where
  ex : ∃ es n, KDict K w d es n ∧ Paired (fun (p : Str × V) (e : DictEntry) => (∃ t, e.key = .str p.1 t) ∧ RelV p.2 e.val) tab es.toList
theorem ktab_find {k : Str} : ∀ {tab : List (Str × V)} {l : List DictEntry}, Paired (fun (p : Str × V) (e : DictEntry) => (∃ t, e.key = .str p.1 t) ∧ RelV p.2 e.val) tab l →
    RelO (tab.lookup k) ((l.find? fun e => Value.isStrOf k e.key).map (·.val))
  | _, _, .nil => trivial
  | (x, v) :: r, e :: l, .cons ⟨⟨t, h1⟩, h2⟩ hr => by
    have ih := ktab_find (k := k) hr
    rw [List.lookup_cons, List.find?_cons, h1]
    by_cases hk : k = x
    · subst hk
      have e1 : (k == k) = true := by simp
      have e2 : Value.isStrOf k (.str k t) = true := by simp [Value.isStrOf]
      rw [e1, e2]
      exact h2
    · have e1 : (k == x) = false := by simpa using hk
      have e2 : Value.isStrOf k (.str x t) = false := by
        have : ¬ x = k := fun z => hk z.symm
        simp [Value.isStrOf, this]
      rw [e1, e2]
      exact ih
def tKGet (d : Addr) (tab : List (Str × V)) (td ty tx : TE) : TE := fun σ H Q => td σ H fun x H1 => x = .ref d ∧ ty σ H1 fun y H2 => tx σ H2 fun z H3 => ∃ k, y = .str k ∧ Q ((tab.lookup k).getD z) H3
section
variable {X : Cx} {o e f : Expr} {apos cpos : Pos} {td ty tx : TE} {d : Addr} {tab : List (Str × V)}
theorem kKGet (T : KTab X.K X.w d tab) (ho : PE X o td) (he : PE X e ty) (hf : PE X f tx) (m : M2 X o "get" apos e f cpos := by exact ⟨rfl, rfl, rfl, rfl⟩) : PE X (.Call (.Attribute o "get" apos) [e, f] [] cpos) (tKGet d tab td ty tx) := by
  refine ⟨fun pins s σ H Q I h => ?_⟩
  refine wpAny_Call_method m.base m.few m.line PySem.F.plainAttrs_dict PySem.F.slot_dict_get PySem.F.type_dict_get (thn (ho.run pins s σ H _ I h) fun u s1 ⟨x, H1, I1, rx, ex, q1⟩ => ?_)
  subst ex
  obtain rfl : u = Value.ref d := rx
  obtain ⟨es, n, D, pr⟩ := T.ex
  have mp : ∀ {s' : Shared}, X.K.In s'.heap → s'.heap.MapOf (strKind X.prog X.w) d (fun k => findBy Value.isStrOf es k) := fun kin => PySem.W.mapOf_K (prog := X.prog) (w := X.w) kin D.at_ D.lit
  refine ⟨(mp I1.kIn).typeIs, fun b q => ?_, ?_⟩
  · cases q
    exact ⟨_, I1.kIn _ _ D.at_, rfl⟩
  rw [m.trees]
  refine Calls.callWith_builtin rfl (Calls.evalArgs_plain (Calls.spliced_cons (thn (he.run pins s1 σ H1 _ I1 q1) fun iv s2 ⟨y, H2, I2, ry, q2⟩ =>
    Calls.spliced_cons (thn (hf.run pins s2 σ H2 _ I2 q2) fun fv s3 ⟨z, H3, I3, rz, k, ey, q3⟩ => Calls.spliced_nil ?_))))
  subst ey
  obtain ⟨t, rfl⟩ := ry
  refine call_meetsIn PySem.F.slot_dict_get (mp I3.kIn).typeIs PySem.F.entry_dict_get (PySem.F.args_dict_get_3 _ _ _) (meets_dict_get_default (strKind X.prog X.w) d (PySem.strKind_is X.prog X.w k t) D.low fv) ⟨_, mp I3.kIn, ?_⟩
  refine ⟨(tab.lookup k).getD z, H3, I3.tok _, ?_, q3⟩
  have rel := ktab_find (k := k) pr
  have e1 : findBy Value.isStrOf es k = (es.toList.find? fun e => Value.isStrOf k e.key).map (·.val) := by
    obtain ⟨l⟩ := es
    simp [findBy]
  rw [e1]
  cases h1 : tab.lookup k with
  | none =>
    rw [h1] at rel
    cases h2 : (es.toList.find? fun e => Value.isStrOf k e.key).map (·.val) with
    | none => exact rz
    | some u => rw [h2] at rel; exact rel.elim
  | some v =>
    rw [h1] at rel
    cases h2 : (es.toList.find? fun e => Value.isStrOf k e.key).map (·.val) with
    | none => rw [h2] at rel; exact rel.elim
    | some u => rw [h2] at rel; exact rel
end
/-! ## what the head tells -/
def tabB (K : PySem.W.Frag) (a : Addr) (tab : List (Str × V)) : Bool := match K.lookup a with
  | some ⟨_, _, .dict es _, _⟩ => go tab es.toList
  | _ => false
where go : List (Str × V) → List DictEntry → Bool
  | [], [] => true
  | p :: r, e :: l => (match e.key with | .str x _ => decide (x = p.1) | _ => false) && He.relB p.2 e.val && go r l
  | _, _ => false
theorem tabB_go : ∀ {tab : List (Str × V)} {l : List DictEntry}, tabB.go tab l = true → Paired (fun (p : Str × V) (e : DictEntry) => (∃ t, e.key = .str p.1 t) ∧ RelV p.2 e.val) tab l
  | [], [], _ => .nil
  | [], _ :: _, h => by cases h
  | _ :: _, [], h => by cases h
  | p :: r, e :: l, h => by
    have h' : (((match e.key with | .str x _ => decide (x = p.1) | _ => false) && He.relB p.2 e.val) && tabB.go r l) = true := h
    obtain ⟨h1, h2⟩ := He.ba h'
    obtain ⟨h3, h4⟩ := He.ba h1
    refine .cons ⟨?_, He.relB_ok h4⟩ (tabB_go h2)
    split at h3
    · rename_i x t q
      exact ⟨t, by rw [q, of_decide_eq_true h3]⟩
    · cases h3
theorem tabB_ok {K : PySem.W.Frag} {w : World} {a : Addr} {tab : List (Str × V)} (h : tabB K a tab = true) (D : ∃ es n, KDict K w a es n) : KTab K w a tab := by
  obtain ⟨es, n, D⟩ := D
  refine ⟨es, n, D, ?_⟩
  unfold tabB at h
  rw [D.at_] at h
  exact tabB_go h
/-- an instance's class, for isinstance -/
structure InsK (K : PySem.W.Frag) (C : Addr) : Prop where
  ha : PySem.W.findIn K (.ref C) "__class__" = some (some (.builtin "object.__class__"))
  hn : PySem.W.specialIn K (.builtin "object.__class__") "__get__" = some (some (.builtin "getset_descriptor.__get__"))
  htk : PySem.W.takesIn K (.builtin "object.__class__") = some true
  hm : PySem.W.mroIn K C (.type "object") = some true
def insB (K : PySem.W.Frag) (C : Addr) : Bool := He.eqO (PySem.W.findIn K (.ref C) "__class__") (some (some (.builtin "object.__class__"))) && (He.eqO (PySem.W.specialIn K (.builtin "object.__class__") "__get__") (some (some (.builtin "getset_descriptor.__get__"))) && (decide (PySem.W.takesIn K (.builtin "object.__class__") = some true) && decide (PySem.W.mroIn K C (.type "object") = some true)))
theorem insB_ok {K : PySem.W.Frag} {C : Addr} (h : insB K C = true) : InsK K C := by
  obtain ⟨h1, h⟩ := He.ba h
  obtain ⟨h2, h⟩ := He.ba h
  obtain ⟨h3, h4⟩ := He.ba h
  exact ⟨He.eqO_ok h1, He.eqO_ok h2, of_decide_eq_true h3, of_decide_eq_true h4⟩
abbrev AlK : Type := (Bool × List He.FnW) × List (Option (List (Option (Str × Int))))
def obsK (fx : PySem.W.Frag → List Bool) (fn : List He.DefD) (ts : List He.Tab) (K : PySem.W.Frag) : AlK := (((fx K).all id && fn.all fun d => d.ok K, fn.map fun d => He.fnW K d.at_), ts.map fun t => He.dicW K (t.1 K))
def valK (fn : List He.DefD) (ts : List He.Tab) (w : World) : AlK := ((true, fn.map He.DefD.val), ts.map fun t => some (He.keysIn w.params t.2))
def SaysK (fx : PySem.W.Frag → List Bool) (fn : List He.DefD) (ts : List He.Tab) (w : World) (K : PySem.W.Frag) : Prop := obsK fx fn ts K = valK fn ts w
def obsKG (n : Nat) (fx : PySem.W.Frag → List Bool) (fn : List He.DefD) (ts : List He.Tab) (g : Addr → Option Obj) : AlK := obsK fx fn ts (He.frG g (He.asD g n))
def hookK (n : Nat) (fx : PySem.W.Frag → List Bool) (fn : List He.DefD) (ts : List He.Tab) : PySem.W.Hook where
  α := AlK
  obs := fun s => obsKG n fx fn ts s.heap.get?
  val := fun w => valK fn ts w
  says := fun w h => ∃ K : PySem.W.Frag, K.In h ∧ SaysK fx fn ts w K
  of := fun _ _ e => ⟨_, He.frG_in, e⟩
  keeps := fun _ _ _ ⟨K, hK, c⟩ k => ⟨K, PySem.W.Frag.In.keeps hK k, c⟩
theorem obsKG_eq {n : Nat} {fx : PySem.W.Frag → List Bool} {fn : List He.DefD} {ts : List He.Tab} {g : Addr → Option Obj} {s : Shared} (h : ∀ a, g a = s.heap.get? a) : obsKG n fx fn ts g = (hookK n fx fn ts).obs s := by
  have e : g = s.heap.get? := funext h
  rw [e] <;> rfl
section
variable {fx : PySem.W.Frag → List Bool} {fn : List He.DefD} {ts : List He.Tab} {w : World} {K : PySem.W.Frag}
theorem SaysK.fact (c : SaysK fx fn ts w K) (i : Nat) {f : Bool} (h : (fx K)[i]? = some f := by rfl) : f = true := by
  have c1 := (He.ba (show ((fx K).all id && fn.all fun d => d.ok K) = true from congrArg (fun z : AlK => z.1.1) c)).1
  exact List.all_eq_true.mp c1 f (List.mem_of_getElem? h)
theorem SaysK.def_ (c : SaysK fx fn ts w K) (i : Nat) {d : He.DefD} (h : fn[i]? = some d := by rfl) : ∃ fd, FunD K d.name d.qual d.params d.body d.scope (d.dvs K) (d.kws K) (He.fAd K d.at_) fd := by
  have c2 := (He.ba (show ((fx K).all id && fn.all fun d => d.ok K) = true from congrArg (fun z : AlK => z.1.1) c)).2
  have e : fn.map (fun d => He.fnW K d.at_) = fn.map He.DefD.val := congrArg (fun z : AlK => z.1.2) c
  have e2 : (fn.map fun d => He.fnW K d.at_)[i]? = (fn.map He.DefD.val)[i]? := by rw [e]
  rw [List.getElem?_map, List.getElem?_map, h] at e2
  exact He.DefD.funD (Option.some.inj e2) (List.all_eq_true.mp c2 d (List.mem_of_getElem? h))
theorem SaysK.tab (c : SaysK fx fn ts w K) (i : Nat) {t : He.Tab} (h : ts[i]? = some t := by rfl) : ∃ es n, KDict K w (t.1 K) es n := by
  have e : ts.map (fun t => He.dicW K (t.1 K)) = ts.map fun t => some (He.keysIn w.params t.2) := congrArg (fun z : AlK => z.2) c
  have e2 : (ts.map fun t => He.dicW K (t.1 K))[i]? = (ts.map fun t => some (He.keysIn w.params t.2))[i]? := by rw [e]
  rw [List.getElem?_map, List.getElem?_map, h] at e2
  exact He.dicW_ok (Option.some.inj e2)
end
/-! ## the law's end -/
theorem walkK {l : PySem.W.OpenLaw} {n k : Nat} {q : Program} {loose : List Str} {XP : (Str → Option Value) → Heap → Prop} {YP : World → Heap → Prop} {d : DefRec} {x : Str}
    (hn : l.most = some n) (hn2 : n ≤ sizeLine) (hdf : d.params.defaults = []) (hr : Room k callerA)
    (F : ∀ (w : World) (mg : Str → Option Value) (fa : Addr) (h : Heap), YP w h → h.Ns mainGlobals mg → mg d.name = some (.ref fa) →
      ∃ (K : PySem.W.Frag) (fd : FuncData) (sp : Sp), K.In h ∧ (∀ (s : Shared) (u : Value), BindsTo s fd ⟨[u], []⟩ [(x, u)]) ∧
        (∀ (H : Hp) (a : Addr) (ns : List Int), ns.length ≤ n → (∀ z ∈ ns, Builtin.Int.intBits z ≤ 1048576) → Only H → SqL K H a (ns.map V.int) → sp [.ref a] H (fun v _ => v = .bl true) fun _ _ _ => False) ∧
        ∀ base : Heap, K.In base → base.Ns mainGlobals mg → FnOk l.prog w K mg base (L2.CX l.prog w) k fa fd [x] sp) :
    PySem.W.WalkO q loose XP YP l.row.toRowW d [] (fun f vs => PySem.call f vs) := by
  refine Att.attach_callB hn hdf fun w s₀ s₁ mg mb fa o pm cd doc a vs ns G Y ho hd hcd hmg hobj hints hlen hbits hg => ?_
  obtain ⟨K, fd, sp, KX, hb, hsp, hF⟩ := F w mg fa _ Y G.T.g hmg
  refine law_call KX G.T.g G.T.b G.T.builtins G.T.nolimit hg hobj hints (Nat.le_trans hlen hn2) hr hF hb (fun H hO hS => hsp H a ns hlen hbits hO hS) fun H e s' h => ?_
  obtain ⟨_, _, _, _, _, _, _, _, _, _, _, _, z⟩ := h
  exact z.elim
end Kn

set_option Elab.async false
set_option linter.all false
set_option maxRecDepth 100000
set_option maxHeartbeats 2000000
namespace Kn
open PySem PySem.Spec PyProof.Rows L2
/-! ## readings, step by step -/
section
variable {K : PySem.W.Frag} {D : Ends} {σ : L2.St} {H : Hp} {Q : VK} {QB : Bool → Hp → Prop} {QL : List V → Hp → Prop} {te ta tb tc : TE} {tt tu : TT} {tr : TA} {t u : TS} {g : TG} {v x y : V} {i : Nat} {E : XK} {sp : Sp} {vs : List V}
theorem s_seq (h : t { D with nx := u D } σ H) : tSeq t u D σ H := h
theorem s_next (h : D.nx σ H) : tNext D σ H := h
theorem s_asg (h : te σ H fun v H1 => g v σ H1 D.nx) : tAsg te g D σ H := h
theorem s_name {QS : L2.St → Hp → Prop} (h : QS (σ.set i (some v)) H) : gName i v σ H QS := h
theorem s_ret (h : te σ H D.rt) : tRet te D σ H := h
theorem s_drop (h : te σ H fun _ H1 => D.nx σ H1) : tDrop te D σ H := h
theorem s_ifs (h : tt σ H fun b H1 => if b = true then t D σ H1 else u D σ H1) : tIfS tt t u D σ H := h
theorem s_ifE (h : tt σ H fun b H1 => if b = true then ta σ H1 Q else tb σ H1 Q) : tIf tt ta tb σ H Q := h
theorem s_var (h : σ[i]? = some (some v)) (q : Q v H) : tVar i σ H Q := ⟨v, h, q⟩
theorem s_c (q : Q v H) : tC v σ H Q := q
theorem s_cons (h : te σ H fun v H1 => tr σ H1 fun vs H2 => QL (v :: vs) H2) : tCons te tr σ H QL := h
theorem s_nil (q : QL [] H) : tNil σ H QL := q
theorem s_cb {r : List V → Hp → VK → Prop} (h : tr σ H fun vs H1 => r vs H1 Q) : tCB r tr σ H Q := h
theorem s_op {r : R2} (h : ta σ H fun x H1 => tb σ H1 fun y H2 => r x y H2 Q) : tOp r ta tb σ H Q := h
theorem s_un {r : V → Hp → VK → Prop} (h : ta σ H fun x H1 => r x H1 Q) : tUn r ta σ H Q := h
theorem s_call (h : tr σ H fun vs H1 => sp vs H1 Q E) : tCall sp [] E tr σ H Q := by
  have e : (fun (vs : List V) (H1 : Hp) => sp (vs ++ []) H1 Q E) = fun vs H1 => sp vs H1 Q E := by
    funext vs H1
    rw [List.append_nil]
  show tr σ H fun vs H1 => sp (vs ++ []) H1 Q E
  rw [e]
  exact h
theorem s_make {C : Addr} (h : tr σ H fun vs H1 => ∀ x dx, H1 x = none → H1 dx = none → dx ≠ x → sp (.ref x :: vs) (upd (upd H1 dx (.own x)) x (.ins C dx [])) (fun v H2 => v = .non ∧ Q (.ref x) H2) E) : tMake C sp [] E tr σ H Q := by
  have e : (fun (vs : List V) (H1 : Hp) => ∀ x dx, H1 x = none → H1 dx = none → dx ≠ x → sp (.ref x :: (vs ++ [])) (upd (upd H1 dx (.own x)) x (.ins C dx [])) (fun v H2 => v = .non ∧ Q (.ref x) H2) E) = fun vs H1 => ∀ x dx, H1 x = none → H1 dx = none → dx ≠ x → sp (.ref x :: vs) (upd (upd H1 dx (.own x)) x (.ins C dx [])) (fun v H2 => v = .non ∧ Q (.ref x) H2) E := by
    funext vs H1
    rw [List.append_nil]
  show tr σ H fun vs H1 => ∀ x dx, H1 x = none → H1 dx = none → dx ≠ x → sp (.ref x :: (vs ++ [])) (upd (upd H1 dx (.own x)) x (.ins C dx [])) (fun v H2 => v = .non ∧ Q (.ref x) H2) E
  rw [e]
  exact h
theorem s_test (h : te σ H fun x H1 => ∃ k, x = .bl k ∧ QB k H1) : tTest te σ H QB := h
theorem s_tB (h : te σ H fun x H1 => ∃ k, x = .bl k ∧ QB k H1) : tB te σ H QB := h
theorem s_bl {b : Bool} (q : QB b H) : ∃ k, V.bl b = .bl k ∧ QB k H := ⟨b, rfl, q⟩
theorem s_and (h : tt σ H fun c H1 => if c = true then tu σ H1 QB else QB false H1) : tAnd tt tu σ H QB := h
theorem s_or (h : tt σ H fun c H1 => if c = true then QB true H1 else tu σ H1 QB) : tOr tt tu σ H QB := h
theorem s_not (h : tt σ H fun c H1 => QB (!c) H1) : tNot tt σ H QB := h
theorem s_andV (h : ta σ H fun x H1 => ∃ c, x = .bl c ∧ if c = true then tb σ H1 Q else Q (.bl false) H1) : tAndV ta tb σ H Q := h
theorem s_orV (h : ta σ H fun x H1 => ∃ c, x = .bl c ∧ if c = true then Q (.bl true) H1 else tb σ H1 Q) : tOrV ta tb σ H Q := h
theorem s_notV (h : ta σ H fun x H1 => ∃ c, x = .bl c ∧ Q (.bl (!c)) H1) : tNotV ta σ H Q := h
theorem s_tup (h : tr σ H fun xs H1 => xs.length ≤ sizeLine ∧ ∀ p, H1 p = none → Q (.ref p) (upd H1 p (.tup xs))) : tTup tr σ H Q := h
theorem s_lst (h : tr σ H fun xs H1 => xs.length ≤ sizeLine ∧ ∀ p, H1 p = none → Q (.ref p) (upd H1 p (.lst xs))) : tLst tr σ H Q := h
theorem s_chain {r r' : R2} (h : ta σ H fun x H1 => tb σ H1 fun y H2 => r x y H2 fun z H3 => ∃ k, z = .bl k ∧ (if k = true then tc σ H3 fun w' H4 => r' y w' H4 Q else Q (.bl false) H3)) : tChain r r' ta tb tc σ H Q := h
theorem s_bm {T : String} {r : V → List V → Hp → VK → Prop} (h : ta σ H fun x H1 => tyV K T x H1 ∧ tr σ H1 fun xs H2 => r x xs H2 Q) : tBM K T r ta tr σ H Q := h
theorem s_ix0 {r : R2} (h : ta σ H fun x H1 => tb σ H1 fun y H2 => r x y H2 Q) : tOp r ta tb σ H Q := h
theorem s_sub {to ti : TE} {tS : TSet} {QS : L2.St → Hp → Prop} (h : to σ H fun o H1 => ti σ H1 fun i H2 => tS o i v H2 fun H3 => QS σ H3) : gSub to ti tS v σ H QS := h
theorem s_sl {r : V → Option Int → Option Int → Hp → VK → Prop} {tl th : TO} (h : te σ H fun x H1 => tl σ H1 fun l H2 => th σ H2 fun u H3 => r x l u H3 Q) : tSl r te tl th σ H Q := h
theorem s_part {QO : Option Int → Hp → Prop} (h : te σ H fun x H1 => ∃ i, x = .int i ∧ QO (some i) H1) : tPart te σ H QO := h
theorem s_nop {QO : Option Int → Hp → Prop} (h : QO none H) : tNoPart σ H QO := h
theorem s_int {j : Int} {QO : Int → Hp → Prop} (q : QO j H) : ∃ i, V.int j = .int i ∧ QO i H := ⟨j, rfl, q⟩
/-! by values -/
theorem v_addI {i j : Int} (q : Q (.int (i + j)) H) : rAddX (.int i) (.int j) H Q := .inl ⟨i, j, rfl, rfl, q⟩
theorem v_addS {a b : Str} (h : a.length + b.length ≤ sizeLine) (q : Q (.str (a ++ b)) H) : rAddX (.str a) (.str b) H Q := .inr (.inl ⟨a, b, rfl, rfl, h, q⟩)
theorem v_addL {p r : Addr} {xs zs : List V} (h1 : H p = some (.lst xs)) (h2 : H r = some (.lst zs)) (hl : xs.length + zs.length ≤ sizeLine) (q : ∀ o, H o = none → Q (.ref o) (upd H o (.lst (xs ++ zs)))) : rAddX (.ref p) (.ref r) H Q :=
  .inr (.inr ⟨p, r, xs, zs, rfl, rfl, h1, h2, hl, q⟩)
theorem v_subI {i j : Int} (q : Q (.int (i - j)) H) : rSubI (.int i) (.int j) H Q := ⟨i, j, rfl, rfl, q⟩
theorem v_mulI {i j : Int} (h : CMul i j) (q : Q (.int (i * j)) H) : rMulX (.int i) (.int j) H Q := .inl ⟨i, j, rfl, rfl, h, q⟩
theorem v_divI {i j : Int} (h : CDivW i j) (q : Q (.int (i / j)) H) : rDivX (.int i) (.int j) H Q := ⟨i, j, rfl, rfl, h, q⟩
theorem v_modI {i j : Int} (h : j ≠ 0) (q : Q (.int (i.fmod j)) H) : rModX (.int i) (.int j) H Q := ⟨i, j, rfl, rfl, h, q⟩
theorem v_powI {i j : Int} (h : CPow i j) (q : Q (.int (i ^ j.toNat)) H) : rPowX (.int i) (.int j) H Q := ⟨i, j, rfl, rfl, h, q⟩
theorem v_lt {i j : Int} (q : Q (.bl (decide (i < j))) H) : rLtI (.int i) (.int j) H Q := ⟨i, j, rfl, rfl, q⟩
theorem v_le {i j : Int} (q : Q (.bl (decide (i ≤ j))) H) : rLeI (.int i) (.int j) H Q := ⟨i, j, rfl, rfl, q⟩
theorem v_gt {i j : Int} (q : Q (.bl (decide (j < i))) H) : rGtI (.int i) (.int j) H Q := ⟨i, j, rfl, rfl, q⟩
theorem v_ge {i j : Int} (q : Q (.bl (decide (j ≤ i))) H) : rGeI (.int i) (.int j) H Q := ⟨i, j, rfl, rfl, q⟩
theorem v_eqI {i j : Int} (q : Q (.bl (decide (i = j))) H) : rEqX K (.int i) (.int j) H Q := .inl ⟨rfl, by
  have e : decide (V.int i = V.int j) = decide (i = j) := by
    by_cases h : i = j
    · rw [h]; simp
    · have : ¬ V.int i = V.int j := fun z => h (by injection z)
      rw [decide_eq_false h, decide_eq_false this]
  rw [e]; exact q⟩
theorem v_eqS {a b : Str} (q : Q (.bl (decide (a = b))) H) : rEqX K (.str a) (.str b) H Q := .inl ⟨rfl, by
  have e : decide (V.str a = V.str b) = decide (a = b) := by
    by_cases h : a = b
    · rw [h]; simp
    · have : ¬ V.str a = V.str b := fun z => h (by injection z)
      rw [decide_eq_false h, decide_eq_false this]
  rw [e]; exact q⟩
theorem v_neS {a b : Str} (q : Q (.bl (!decide (a = b))) H) : rNeX K (.str a) (.str b) H Q := .inl ⟨rfl, by
  have e : decide (V.str a = V.str b) = decide (a = b) := by
    by_cases h : a = b
    · rw [h]; simp
    · have : ¬ V.str a = V.str b := fun z => h (by injection z)
      rw [decide_eq_false h, decide_eq_false this]
  rw [e]; exact q⟩
theorem v_neI {a b : Int} (q : Q (.bl (!decide (a = b))) H) : rNeX K (.int a) (.int b) H Q := .inl ⟨rfl, by
  have e : decide (V.int a = V.int b) = decide (a = b) := by
    by_cases h : a = b
    · rw [h]; simp
    · have : ¬ V.int a = V.int b := fun z => h (by injection z)
      rw [decide_eq_false h, decide_eq_false this]
  rw [e]; exact q⟩
theorem v_eqD {d e : PyData} (h1 : Dp K H x d) (h2 : Dp K H y e) (s1 : SeqAt.shaped d = true) (s2 : SeqAt.shaped e = true) (q : Q (.bl (PyData.eqv d e)) H) : rEqX K x y H Q := .inr ⟨d, e, h1, h2, s1, s2, q⟩
theorem v_neD {d e : PyData} (h1 : Dp K H x d) (h2 : Dp K H y e) (s1 : SeqAt.shaped d = true) (s2 : SeqAt.shaped e = true) (q : Q (.bl (!PyData.eqv d e)) H) : rNeX K x y H Q := .inr ⟨d, e, h1, h2, s1, s2, q⟩
theorem v_ixL {p : Addr} {xs : List V} {j : Int} (h : SqL K H p xs) (ha : atI xs j = some v) (q : Q v H) : rIx K (.ref p) (.int j) H Q := .inl ⟨p, xs, j, v, rfl, rfl, h, ha, q⟩
theorem v_ixT {p : Addr} {xs : List V} {j : Int} (h : SqT K H p xs) (ha : atI xs j = some v) (q : Q v H) : rIx K (.ref p) (.int j) H Q := .inr (.inl ⟨p, xs, j, v, rfl, rfl, h, ha, q⟩)
theorem v_ixS {z : Str} {j : Int} {c : Nat} (h : z.length ≤ sizeLine) (ha : atI z.cps.toList j = some c) (q : Q (.str ⟨#[c]⟩) H) : rIx K (.str z) (.int j) H Q := .inr (.inr ⟨z, j, c, rfl, rfl, h, ha, q⟩)
theorem v_isi {T : Value} {n : String} {b : Bool} (ht : TyX K H x T) (hk : PySem.W.kitOne K T (.type n) = some b) (q : Q (.bl b) H) : rIsi K [x, .ty n] H Q := ⟨x, .ty n, T, .type n, b, rfl, .ty n, ht, hk, q⟩
theorem v_isC {T : Value} {C : Addr} {b : Bool} (ht : TyX K H x T) (hk : PySem.W.kitOne K T (.ref C) = some b) (q : Q (.bl b) H) : rIsi K [x, .ref C] H Q := ⟨x, .ref C, T, .ref C, b, rfl, .own C, ht, hk, q⟩
theorem v_set {p : Addr} {xs : List V} {k : Int} {j : Nat} {QH : Hp → Prop} (h : H p = some (.lst xs)) (hi : ixN xs.length k = some j) (q : QH (upd H p (.lst (xs.set j v)))) : rSetL (.ref p) (.int k) v H QH := ⟨p, xs, k, j, rfl, rfl, h, hi, q⟩
theorem v_int1b {b : Bool} (q : Q (.int (if b then 1 else 0)) H) : rInt1 [.bl b] H Q := .inr ⟨b, rfl, q⟩
theorem v_lenS {z : Str} (h : z.length ≤ sizeLine) (q : Q (.int z.length) H) : rLenX K [.str z] H Q := ⟨_, _, rfl, ⟨h, rfl⟩, q⟩
theorem v_lenL {p : Addr} {xs : List V} (h : SqL K H p xs) (q : Q (.int xs.length) H) : rLenX K [.ref p] H Q := ⟨_, _, rfl, .inl ⟨xs, h, rfl⟩, q⟩
theorem v_lenT {p : Addr} {xs : List V} (h : SqT K H p xs) (q : Q (.int xs.length) H) : rLenX K [.ref p] H Q := ⟨_, _, rfl, .inr ⟨xs, h, rfl⟩, q⟩
theorem v_listL {p : Addr} {xs : List V} (h : SqL K H p xs) (q : ∀ l, H l = none → Q (.ref l) (upd H l (.lst xs))) : rListOf K [.ref p] H Q := ⟨p, xs, rfl, .inl h, q⟩
theorem v_strip {a b : Str} (h : a.length ≤ sizeLine) (q : Q (.str (Txt.stripChars a b)) H) : rStrip (.str a) [.str b] H Q := ⟨a, b, rfl, rfl, h, q⟩
theorem v_joinL {a : Str} {p : Addr} {ys : List Str} (h : SqL K H p (ys.map V.str)) (hl : (ys.map (·.length)).sum + ys.length * a.length ≤ 16777216) (q : Q (.str (Txt.join a ys)) H) : rJoin K (.str a) [.ref p] H Q := ⟨a, p, ys, rfl, rfl, .inl h, hl, q⟩
theorem v_app {p : Addr} {xs : List V} (h : H p = some (.lst xs)) (hl : xs.length < sizeLine) (q : Q .non (upd H p (.lst (xs ++ [y])))) : rAppend (.ref p) [y] H Q := ⟨p, xs, y, rfl, rfl, h, hl, q⟩
theorem s_kget {d : Addr} {tab : List (Str × V)} (h : ta σ H fun x H1 => x = .ref d ∧ tb σ H1 fun y H2 => tc σ H2 fun z H3 => ∃ k, y = .str k ∧ Q ((tab.lookup k).getD z) H3) : tKGet d tab ta tb tc σ H Q := h
theorem s_lc {wi : TI} {g : TG} {vs : List Nat} (h : wi σ H fun J H1 => ∀ D, H1 D = none → ∃ W : Nat → Nat → Hp → Prop, (∃ m, W 0 m (upd H1 D (.lst []))) ∧ ∀ i m H, W i m H →
  (J.stop i H ∧ Q (.ref D) H) ∨ (J.go i H ∧ ∃ Nx : Hp → Prop, (∀ H', Nx H' → ∃ m', m' < m ∧ W (i + 1) m' H') ∧ ∀ x H', J.yld i H x H' → g x (wipe σ vs) H' fun σ2 H2 => wipe σ2 vs = wipe σ vs ∧ tt σ2 H2 fun b H3 =>
    if b = true then te σ2 H3 fun y H4 => ∃ acc, H4 D = some (.lst acc) ∧ acc.length < sizeLine ∧ Nx (upd H4 D (.lst (acc ++ [y]))) else Nx H3)) : tLc wi g tt te vs σ H Q := h
theorem s_rng1 {R : It → Hp → Prop} (h : tr σ H fun vs H1 => ∃ j : Int, vs = [.int j] ∧ -(2 ^ 62) ≤ j ∧ j < 2 ^ 62 ∧ R (Itr 0 j.toNat) H1) : iRng1 tr σ H R := h
theorem s_ilst {R : It → Hp → Prop} (h : te σ H fun x H1 => ∃ a, x = .ref a ∧ (∃ xs, SqL K H1 a xs) ∧ R (Itl K a) H1) : iList K te σ H R := h
theorem s_isL {R : It → Hp → Prop} (h : te σ H fun x H1 => ∃ a, x = .ref a ∧ (∃ xs, SqL K H1 a xs) ∧ R (Itl K a) H1) : iSeq K te σ H R := .inl h
theorem s_isT {R : It → Hp → Prop} (h : te σ H fun x H1 => ∃ a, x = .ref a ∧ (∃ xs, SqT K H1 a xs) ∧ R (Itt K a) H1) : iSeq K te σ H R := .inr h
theorem s_cut (Mid : L2.St → Hp → Prop) (rest : ∀ σ' H', Mid σ' H' → u D σ' H') (h : ∀ U : L2.St → Hp → Prop, (∀ σ' H', Mid σ' H' → U σ' H') → t { D with nx := U } σ H) : tSeq t u D σ H := h (u D) rest
theorem s_gsL {n : Nat} {tg : TGs} {QS : L2.St → Hp → Prop} {a : Addr} {xs : List V} (h1 : SqL K H a xs) (h2 : xs.length = n) (h : tg xs σ H QS) : gSeq K n tg (.ref a) σ H QS := .inr ⟨a, xs, rfl, h1, h2, h⟩
theorem s_gsT {n : Nat} {tg : TGs} {QS : L2.St → Hp → Prop} {a : Addr} {xs : List V} (h1 : SqT K H a xs) (h2 : xs.length = n) (h : tg xs σ H QS) : gSeq K n tg (.ref a) σ H QS := .inl ⟨a, xs, rfl, h1, h2, h⟩
theorem s_gcons {tg : TGs} {QS : L2.St → Hp → Prop} (h : g v σ H fun σ' H' => tg vs σ' H' QS) : gCons g tg (v :: vs) σ H QS := ⟨v, vs, rfl, h⟩
theorem s_gnil {QS : L2.St → Hp → Prop} (h : QS σ H) : gNil [] σ H QS := ⟨rfl, h⟩
theorem s_meth {cs : Addr → Sp → Prop} {m : Str} (h : ta σ H fun x H1 => ∃ a C dx fs sp, x = .ref a ∧ H1 a = some (.ins C dx fs) ∧ cs C sp ∧ fs.lookup m = none ∧ tr σ H1 fun vs H2 => sp (x :: vs) H2 Q E) : tMethA cs m E ta tr σ H Q := h
theorem s_rev (h : te σ H fun x H1 => ∃ a xs, x = .ref a ∧ SqL K H1 a xs ∧ ∀ p, H1 p = none → Q (.ref p) (upd H1 p (.lst xs.reverse))) : tRevL K te σ H Q := h
theorem s_istr {R : It → Hp → Prop} (h : te σ H fun x H1 => ∃ z, x = .str z ∧ R (Its z) H1) : iStr te σ H R := h
theorem s_for {wi : TI} {g : TG} (h : wi σ H fun J H1 => ∃ W : Nat → Nat → L2.St → Hp → Prop, (∃ m, W 0 m σ H1) ∧ ∀ i m σ H, W i m σ H → (J.stop i H ∧ D.nx σ H) ∨ (J.go i H ∧ ∃ N : L2.St → Hp → Prop, (∀ σ' H', N σ' H' → ∃ m', m' < m ∧ W (i + 1) m' σ' H') ∧
    ∀ x H', J.yld i H x H' → g x σ H' fun σ2 H2 => t { D with nx := N, ct := N, bk := D.nx } σ2 H2)) : tFor wi g t D σ H := h
theorem s_yes (q : QB true H) : tYes σ H QB := q
theorem s_wipe {vs : List Nat} {σ2 : L2.St} {P : Prop} (h : wipe σ2 vs = wipe σ vs) (q : P) : wipe σ2 vs = wipe σ vs ∧ P := ⟨h, q⟩
theorem s_fldS {f : Str} (h : tb σ H fun y H1 => ta σ H1 fun x H2 => ∃ a C dx fs, x = .ref a ∧ H2 a = some (.ins C dx fs) ∧ Cls K C ∧ NoAttr K C f ∧ fs.length < 1000 ∧ D.nx σ (upd H2 a (.ins C dx (putF f y fs)))) : sFld K ta tb f D σ H := h
theorem putF_new {f : Str} {y : V} : ∀ {fs : List (Str × V)}, (fs.all fun q => !(q.1 == f)) = true → putF f y fs = fs ++ [(f, y)]
  | [], _ => rfl
  | (g, z) :: r, h => by
    have h2 : (!(g == f) && r.all fun q => !(q.1 == f)) = true := h
    obtain ⟨h3, h4⟩ := He.ba h2
    have hg : ¬ g = f := by
      intro e
      rw [e] at h3
      simp at h3
    show (if g = f then _ else (g, z) :: putF f y r) = _
    rw [if_neg hg, putF_new h4]
    rfl
theorem v_fldS {a C dx : Addr} {fs : List (Str × V)} {f : Str} {P : Hp → Prop} (ho : H a = some (.ins C dx fs)) (hc : Cls K C) (hn : NoAttr K C f) (hl : fs.length < 1000) (hf : (fs.all fun q => !(q.1 == f)) = true) (q : P (upd H a (.ins C dx (fs ++ [(f, y)])))) :
    ∃ a' C' dx' fs', V.ref a = .ref a' ∧ H a' = some (.ins C' dx' fs') ∧ Cls K C' ∧ NoAttr K C' f ∧ fs'.length < 1000 ∧ P (upd H a' (.ins C' dx' (putF f y fs'))) := ⟨a, C, dx, fs, rfl, ho, hc, hn, hl, by rw [putF_new hf]; exact q⟩
theorem s_fld {f : Str} (h : ta σ H fun x H1 => ∃ a C dx fs v, x = .ref a ∧ H1 a = some (.ins C dx fs) ∧ Cls K C ∧ NoAttr K C f ∧ fs.lookup f = some v ∧ Q v H1) : tFld K ta f σ H Q := h
theorem v_fld {a C dx : Addr} {fs : List (Str × V)} {f : Str} {P : V → Prop} (ho : H a = some (.ins C dx fs)) (hc : Cls K C) (hn : NoAttr K C f) (hf : fs.lookup f = some v) (q : P v) :
    ∃ a' C' dx' fs' v', V.ref a = .ref a' ∧ H a' = some (.ins C' dx' fs') ∧ Cls K C' ∧ NoAttr K C' f ∧ fs'.lookup f = some v' ∧ P v' := ⟨a, C, dx, fs, v, rfl, ho, hc, hn, hf, q⟩
end
theorem s_blP {b : Bool} {P : Bool → Prop} (q : P b) : ∃ c, V.bl b = .bl c ∧ P c := ⟨b, rfl, q⟩
theorem s_strP {b : Str} {P : Str → Prop} (q : P b) : ∃ c, V.str b = .str c ∧ P c := ⟨b, rfl, q⟩
theorem TyX.ins {K : PySem.W.Frag} {H : Hp} {a C dx : Addr} {fs : List (Str × V)} (e : H a = some (.ins C dx fs)) (c : Cls K C) (i : InsK K C) : TyX K H (.ref a) (.ref C) := .base (.ins e c i.ha i.hn i.htk i.hm)
theorem s_intP {b : Int} {P : Int → Prop} (q : P b) : ∃ c, V.int b = .int c ∧ P c := ⟨b, rfl, q⟩
theorem ite_not {c : Bool} {A B : Prop} (h : if c = true then B else A) : if (!c) = true then A else B := by cases c <;> simpa using h
theorem itT {p : Prop} [Decidable p] {A B : Prop} (h : p) (q : A) : if decide p = true then A else B := by
  rw [decide_eq_true h]
  exact iteT q
theorem itF {p : Prop} [Decidable p] {A B : Prop} (h : ¬ p) (q : B) : if decide p = true then A else B := by
  rw [decide_eq_false h]
  exact iteF q
theorem it2 {p : Prop} [Decidable p] {A B : Prop} (h1 : p → A) (h2 : ¬ p → B) : if decide p = true then A else B := by
  by_cases h : p
  · exact itT h (h1 h)
  · exact itF h (h2 h)
theorem sz {n : Nat} (h : n ≤ 100000) : n ≤ sizeLine := Nat.le_trans h (by decide)
/-! ## heaps -/
theorem _root_.L2.Same.new {H : Hp} {p : Addr} {o : HO} (h : H p = none) : Same H (upd H p o) := fun a u e => by
  rw [upd_ne (ne_of_none e h)]
  exact e
theorem _root_.L2.Same.at_ {H H' : Hp} {a : Addr} {o : HO} (s : Same H H') (h : H a = some o) : H' a = some o := s a o h
/-- what H0 did not know may change -/
theorem _root_.L2.Same.mut {H0 H : Hp} {p : Addr} {o : HO} (s : Same H0 H) (h : H0 p = none) : Same H0 (upd H p o) := fun a u e => by
  rw [upd_ne (ne_of_none e h)]
  exact s a u e
theorem _root_.L2.Same.sqt {K : PySem.W.Frag} {H H' : Hp} {a : Addr} {xs : List V} (e : Same H H') (h : SqT K H a xs) : SqT K H' a xs := by
  rcases h with (h | ⟨o, h⟩) | h
  · exact .inl (.inl (e _ _ h))
  · exact .inl (.inr ⟨o, e _ _ h⟩)
  · exact .inr h
/-- all kept but at w -/
def But (w : Addr) (H H' : Hp) : Prop := ∀ b o, b ≠ w → H b = some o → H' b = some o
theorem But.refl (w : Addr) (H : Hp) : But w H H := fun _ _ _ h => h
theorem But.trans {w : Addr} {H H1 H2 : Hp} (a : But w H H1) (b : But w H1 H2) : But w H H2 := fun c o n h => b c o n (a c o n h)
theorem _root_.L2.Same.but {w : Addr} {H H1 : Hp} (a : Same H H1) : But w H H1 := fun c o _ h => a c o h
theorem But.upd {w : Addr} {H : Hp} {o : HO} : But w H (upd H w o) := fun b u n h => by
  rw [upd_ne n]
  exact h
theorem atI_zero {α : Type} {a : α} {l : List α} : atI (a :: l) (0 : Int) = some a := atI_nat (j := 0) rfl
/-! ## kinds of values -/
@[reducible] def strB : V → Bool
  | .str _ => true
  | _ => false
@[reducible] def intB : V → Bool
  | .int _ => true
  | .bl _ => true
  | _ => false
@[reducible] def blB : V → Bool
  | .bl _ => true
  | _ => false
structure Knd (K : PySem.W.Frag) (H : Hp) (x : V) : Prop where
  ex : ∃ t, TyX K H x t ∧ PySem.W.kitOne K t (.type "str") = some (strB x) ∧ PySem.W.kitOne K t (.type "int") = some (intB x) ∧ PySem.W.kitOne K t (.type "bool") = some (blB x)
  len : ∀ s, x = .str s → s.length ≤ 100000
theorem kt_str : kitB "str" "str" = some true ∧ kitB "str" "int" = some false ∧ kitB "str" "bool" = some false := by decide +kernel
theorem kt_int : kitB "int" "str" = some false ∧ kitB "int" "int" = some true ∧ kitB "int" "bool" = some false := by decide +kernel
theorem kt_bool : kitB "bool" "str" = some false ∧ kitB "bool" "int" = some true ∧ kitB "bool" "bool" = some true := by decide +kernel
theorem kt_NoneType : kitB "NoneType" "str" = some false ∧ kitB "NoneType" "int" = some false ∧ kitB "NoneType" "bool" = some false := by decide +kernel
theorem Knd.str {K : PySem.W.Frag} {H : Hp} {s : Str} (h : s.length ≤ 100000) : Knd K H (.str s) :=
  ⟨⟨_, .base (.str s), kit_ty kt_str.1, kit_ty kt_str.2.1, kit_ty kt_str.2.2⟩, fun _ e => by injection e with e; rw [← e]; exact h⟩
theorem Knd.int {K : PySem.W.Frag} {H : Hp} {i : Int} : Knd K H (.int i) :=
  ⟨⟨_, .base (.int i), kit_ty kt_int.1, kit_ty kt_int.2.1, kit_ty kt_int.2.2⟩, fun _ e => nomatch e⟩
theorem Knd.bl {K : PySem.W.Frag} {H : Hp} {b : Bool} : Knd K H (.bl b) :=
  ⟨⟨_, .base (.bl b), kit_ty kt_bool.1, kit_ty kt_bool.2.1, kit_ty kt_bool.2.2⟩, fun _ e => nomatch e⟩
theorem Knd.non {K : PySem.W.Frag} {H : Hp} : Knd K H .non :=
  ⟨⟨_, .base .non, kit_ty kt_NoneType.1, kit_ty kt_NoneType.2.1, kit_ty kt_NoneType.2.2⟩, fun _ e => nomatch e⟩
theorem _root_.L2.TyX.same {K : PySem.W.Frag} {H H' : Hp} {x : V} {t : Value} (s : Same H H') (h : TyX K H x t) : TyX K H' x t := by
  cases h with
  | base b =>
    refine .base ?_
    cases b with
    | non => exact .non
    | bl y => exact .bl y
    | int i => exact .int i
    | str y => exact .str y
    | flt y => exact .flt y
    | lst ea => exact .lst (s _ _ ea)
    | frz ea => exact .frz (s _ _ ea)
    | tup ea => exact .tup (s _ _ ea)
    | dK ea => exact .dK (s _ _ ea)
    | dT ea => exact .dT (s _ _ ea)
    | ins ea cl ha hn htk hm => exact .ins (s _ _ ea) cl ha hn htk hm
  | byt b => exact .byt b
  | set ea => exact .set (s _ _ ea)
  | kList e c => exact .kList e c
  | kTuple e c => exact .kTuple e c
  | kDict e c => exact .kDict e c
  | fTuple e => exact .fTuple (s _ _ e)
  | fDict e => exact .fDict (s _ _ e)
theorem Knd.same {K : PySem.W.Frag} {H H' : Hp} {x : V} (s : Same H H') (h : Knd K H x) : Knd K H' x := by
  obtain ⟨⟨t, h1, h2⟩, h3⟩ := h
  exact ⟨⟨t, h1.same s, h2⟩, h3⟩
end Kn

set_option Elab.async false
set_option linter.all false
set_option maxRecDepth 100000
set_option maxHeartbeats 2000000
namespace Kn
open PySem PySem.Spec PyProof.Rows L2
/-! ## texts -/
abbrev cl (s : Str) : List Nat := s.cps.toList
theorem cl_ext {x y : Str} (h : cl x = cl y) : x = y := by
  obtain ⟨⟨a⟩⟩ := x
  obtain ⟨⟨b⟩⟩ := y
  have : a = b := h
  rw [this]
theorem cl_len (s : Str) : s.length = (cl s).length := by simp [cl, Str.length]
theorem cl_app (x y : Str) : cl (x ++ y) = cl x ++ cl y := by
  show (x.cps ++ y.cps).toList = _
  simp [cl]
theorem empty_cl : cl ("" : Str) = [] := by decide +kernel
theorem ne_empty {s : Str} (h : cl s ≠ []) : ¬ s = "" := fun e => h (by rw [e, empty_cl])
/-- a name: one to eight small letters -/
structure Nm (s : Str) : Prop where
  ne : cl s ≠ []
  le : (cl s).length ≤ 8
  lt : ∀ c ∈ cl s, 97 ≤ c ∧ c ≤ 122
def LETk : Str := "abcdefghijklmnopqrstuvwxyz"
theorem LET_has : ∀ c : Nat, 97 ≤ c → c ≤ 122 → LETk.cps.contains c = true := by
  have h : ∀ k : _root_.Fin 26, LETk.cps.contains (97 + k.val) = true := by decide +kernel
  intro c h1 h2
  have := h ⟨c - 97, by omega⟩
  have e : 97 + (c - 97) = c := by omega
  simpa [e] using this
theorem takeWhile_id {α : Type} {p : α → Bool} : ∀ {l : List α}, (∀ x ∈ l, p x = true) → l.takeWhile p = l
  | [], _ => rfl
  | a :: r, h => by
    rw [List.takeWhile_cons, if_pos (h a (List.mem_cons_self ..)), takeWhile_id fun x hx => h x (List.mem_cons_of_mem _ hx)]
theorem strip_none {s : Str} (h : ∀ c ∈ cl s, LETk.cps.contains c = true) : Txt.stripChars s LETk = "" := by
  unfold Txt.stripChars
  rw [stripBy_eq]
  have e1 : PySem.stripLo LETk.cps.contains true s = (cl s).length := by
    show ((cl s).takeWhile _).length = _
    rw [takeWhile_id h]
  rw [e1]
  have e2 : PySem.stripHi LETk.cps.contains true s (cl s).length = (cl s).length := by
    show s.length - ((((cl s).drop (cl s).length).reverse).takeWhile _).length = _
    rw [List.drop_length]
    simp [cl_len]
  rw [e2]
  apply cl_ext
  rw [empty_cl]
  show (s.cps.extract (cl s).length (cl s).length).toList = []
  simp
theorem Nm.strip {s : Str} (h : Nm s) : Txt.stripChars s LETk = "" := strip_none fun c hc => LET_has c (h.lt c hc).1 (h.lt c hc).2
theorem Nm.len {s : Str} (h : Nm s) : s.length ≤ 8 := by
  rw [cl_len]
  exact h.le
def nmB (s : Str) : Bool := !(cl s).isEmpty && (decide ((cl s).length ≤ 8) && (cl s).all fun c => decide (97 ≤ c) && decide (c ≤ 122))
theorem nm_of {s : Str} (h : nmB s = true) : Nm s := by
  unfold nmB at h
  simp only [Bool.and_eq_true, Bool.not_eq_true', decide_eq_true_eq, List.all_eq_true] at h
  obtain ⟨h1, h2, h3⟩ := h
  exact ⟨fun e => (by rw [e] at h1; cases h1), h2, fun c hc => h3 c hc⟩
theorem Nm.ok {s : Str} (h : Nm s) : PyData.strOk s = true := by
  unfold PyData.strOk
  rw [← Array.all_toList]
  exact List.all_eq_true.mpr fun c hc => decide_eq_true (by have := h.lt c hc; omega)
/-- one sign -/
abbrev one (c : Nat) : Str := ⟨#[c]⟩
theorem cl_one (c : Nat) : cl (one c) = [c] := rfl
theorem join_empty : ∀ {cs : List Nat}, cl (Str.join "" (cs.map one)) = cs
  | [] => rfl
  | [c] => rfl
  | c :: d :: r => by
    have ih := join_empty (cs := d :: r)
    show cl (one c ++ "" ++ Str.join "" ((d :: r).map one)) = _
    rw [cl_app, cl_app, empty_cl, ih]
    rfl
/-! ## unlike things -/
theorem erase_len {α : Type} [DecidableEq α] {a : α} {l : List α} (h : a ∈ l) : (l.erase a).length + 1 = l.length := by
  have := List.length_erase_of_mem h
  have : 0 < l.length := List.length_pos_of_mem h
  omega
theorem nodup_le {α : Type} [DecidableEq α] : ∀ {xs ys : List α}, xs.Nodup → (∀ x ∈ xs, x ∈ ys) → xs.length ≤ ys.length
  | [], _, _, _ => Nat.zero_le _
  | x :: xs, ys, hn, hs => by
    obtain ⟨h1, h2⟩ := List.nodup_cons.mp hn
    have hx : x ∈ ys := hs x (List.mem_cons_self ..)
    have := nodup_le (xs := xs) (ys := ys.erase x) h2 fun z hz => by
      have hne : z ≠ x := fun e => h1 (e ▸ hz)
      exact (List.mem_erase_of_ne hne).mpr (hs z (List.mem_cons_of_mem _ hz))
    have := erase_len hx
    rw [List.length_cons]
    omega
theorem some_not_in {α : Type} [DecidableEq α] {xs ys : List α} (hn : xs.Nodup) (hl : ys.length < xs.length) : ∃ x ∈ xs, x ∉ ys := by
  apply Classical.byContradiction
  intro h
  have : ∀ x ∈ xs, x ∈ ys := fun x hx => Classical.byContradiction fun hy => h ⟨x, hx, hy⟩
  have := nodup_le hn this
  omega
/-! ## a well: a list of three numbers, changed by draws -/
def WellAt (H : Hp) (w : Addr) : Prop := ∃ a b c : Int, H w = some (.lst [.int a, .int b, .int c])
/-- what a draw leaves: all but the well -/
structure Dr (w : Addr) (H H' : Hp) : Prop where
  but : But w H H'
  well : WellAt H' w
theorem Dr.refl {w : Addr} {H : Hp} (h : WellAt H w) : Dr w H H := ⟨But.refl w H, h⟩
theorem Dr.trans {w : Addr} {H H1 H2 : Hp} (a : Dr w H H1) (b : Dr w H1 H2) : Dr w H H2 := ⟨a.but.trans b.but, b.well⟩
theorem Dr.free {w p : Addr} {H H' : Hp} (a : Dr w H H') (h0 : WellAt H w) (h : H' p = none) : H p = none := by
  cases e : H p with
  | none => rfl
  | some o =>
    by_cases hp : p = w
    · obtain ⟨_, _, _, q⟩ := a.well
      rw [hp, q] at h
      cases h
    · rw [a.but p o hp e] at h
      cases h
theorem Dr.new {w p : Addr} {H H' : Hp} {o : HO} (a : Dr w H H') (h : H' p = none) : Dr w H (upd H' p o) := by
  obtain ⟨x, y, z, q⟩ := a.well
  have hp : p ≠ w := fun e => by rw [e, q] at h; cases h
  refine ⟨fun b u n e => ?_, x, y, z, by rw [upd_ne hp.symm]; exact q⟩
  rw [upd_ne (ne_of_none (a.but b u n e) h)]
  exact a.but b u n e
/-- what H did not know may change -/
theorem Dr.mut {w p : Addr} {H H' : Hp} {o : HO} (a : Dr w H H') (h0 : WellAt H w) (h : H p = none) : Dr w H (upd H' p o) := by
  obtain ⟨x, y, z, q⟩ := a.well
  obtain ⟨_, _, _, q0⟩ := h0
  have hp : p ≠ w := fun e => by rw [e, q0] at h; cases h
  refine ⟨fun b u n e => ?_, x, y, z, by rw [upd_ne hp.symm]; exact q⟩
  rw [upd_ne (ne_of_none e h)]
  exact a.but b u n e
theorem Dr.ne {w p : Addr} {H : Hp} (h0 : WellAt H w) (h : H p = none) : p ≠ w := fun e => by
  obtain ⟨_, _, _, q⟩ := h0
  rw [e, q] at h
  cases h
/-- a well made after H: all of H stands -/
theorem Dr.same {w : Addr} {H0 H H' : Hp} (a : Dr w H H') (s : Same H0 H) (h : H0 w = none) : Same H0 H' := fun b o e => a.but b o (ne_of_none e h) (s b o e)
/-! ## data -/
/-- the heap without what stands at w -/
def hid (w : Addr) (H : Hp) : Hp := fun b => if b = w then none else H b
theorem hid_at {w a : Addr} {H : Hp} {o : HO} (h : hid w H a = some o) : H a = some o ∧ a ≠ w := by
  unfold hid at h
  by_cases e : a = w
  · rw [if_pos e] at h
    cases h
  · rw [if_neg e] at h
    exact ⟨h, e⟩
theorem hid_of {w a : Addr} {H : Hp} {o : HO} (h : H a = some o) (n : a ≠ w) : hid w H a = some o := by
  unfold hid
  rw [if_neg n]
  exact h
theorem hid_same {w : Addr} {H H' : Hp} (h : But w H H') : Same (hid w H) (hid w H') := fun b o e => by
  obtain ⟨h1, h2⟩ := hid_at e
  exact hid_of (h b o h2 h1) h2
theorem hid_le {w : Addr} {H : Hp} : Same (hid w H) H := fun b o e => (hid_at e).1
/-- scalars -/
def scB : V → Bool
  | .non => true
  | .bl _ => true
  | .int _ => true
  | .str s => PyData.strOk s
  | _ => false
def toD : V → PyData
  | .bl b => .bool b
  | .int i => .int i
  | .str s => .str s
  | _ => .none
theorem dp_sc {K : PySem.W.Frag} {H : Hp} {v : V} (h : scB v = true) : Dp K H v (toD v) := by
  cases v with
  | non => exact .non
  | bl b => exact .bl b
  | int i => exact .int i
  | str s => exact .str s
  | _ => cases h
theorem dpall_sc {K : PySem.W.Frag} {H : Hp} : ∀ {xs : List V}, xs.all scB = true → DpAll K H xs (xs.map toD)
  | [], _ => .nil
  | x :: xs, h => by
    obtain ⟨h1, h2⟩ := He.ba (show (scB x && xs.all scB) = true from h)
    exact .cons (dp_sc h1) (dpall_sc h2)
theorem lay_sc {v : V} (h : scB v = true) : (toD v).canLay0 = true ∧ (toD v).depth ≤ 1 := by
  cases v with
  | non => exact ⟨rfl, by simp [toD, PyData.depth]⟩
  | bl b => exact ⟨rfl, by simp [toD, PyData.depth]⟩
  | int i => exact ⟨rfl, by simp [toD, PyData.depth]⟩
  | str s => exact ⟨by simpa [toD, PyData.canLay0, scB] using h, by simp [toD, PyData.depth]⟩
  | _ => cases h
theorem layall_sc : ∀ {xs : List V}, xs.all scB = true → PyData.canLayAll0 (xs.map toD) = true ∧ PyData.depthAll (xs.map toD) ≤ 1
  | [], _ => ⟨rfl, by simp [PyData.depthAll]⟩
  | x :: xs, h => by
    obtain ⟨h1, h2⟩ := He.ba (show (scB x && xs.all scB) = true from h)
    obtain ⟨a1, a2⟩ := lay_sc h1
    obtain ⟨b1, b2⟩ := layall_sc h2
    refine ⟨?_, ?_⟩
    · simp only [List.map_cons, PyData.canLayAll0, a1, b1, Bool.and_self]
    · simp only [List.map_cons, PyData.depthAll]
      omega
theorem shaped_tup {xs : List V} (h : xs.all scB = true) : SeqAt.shaped (.tuple (xs.map toD)) = true := by
  obtain ⟨h1, h2⟩ := layall_sc h
  have h3 : (PyData.tuple (xs.map toD)).canLay0 = true := by simpa only [PyData.canLay0] using h1
  have h4 : (PyData.tuple (xs.map toD)).depth ≤ 64 := by
    simp only [PyData.depth]
    omega
  exact Bool.and_eq_true_iff.mpr ⟨h3, decide_eq_true h4⟩
theorem shaped_lst {xs : List V} (h : xs.all scB = true) : SeqAt.shaped (.list (xs.map toD)) = true := by
  obtain ⟨h1, h2⟩ := layall_sc h
  have h3 : (PyData.list (xs.map toD)).canLay0 = true := by simpa only [PyData.canLay0] using h1
  have h4 : (PyData.list (xs.map toD)).depth ≤ 64 := by
    simp only [PyData.depth]
    omega
  exact Bool.and_eq_true_iff.mpr ⟨h3, decide_eq_true h4⟩
theorem eqv_self {d : PyData} (h : SeqAt.shaped d = true) : PyData.eqv d d = true := SeqAt.eqv_refl d (SeqAt.canLay_of_shaped h)
section
variable {K : PySem.W.Frag} {H : Hp} {Q : VK} {p r : Addr} {xs : List V}
/-- two tuples of the same scalars -/
theorem v_eqTT (h1 : SqT K H p xs) (h2 : SqT K H r xs) (hs : xs.all scB = true) (q : Q (.bl true) H) : rEqX K (.ref p) (.ref r) H Q :=
  v_eqD (.tup h1 (dpall_sc hs)) (.tup h2 (dpall_sc hs)) (shaped_tup hs) (shaped_tup hs) (by rw [eqv_self (shaped_tup hs)]; exact q)
theorem v_neLL (h1 : SqL K H p xs) (h2 : SqL K H r xs) (hs : xs.all scB = true) (q : Q (.bl false) H) : rNeX K (.ref p) (.ref r) H Q :=
  v_neD (.lst h1 (dpall_sc hs)) (.lst h2 (dpall_sc hs)) (shaped_lst hs) (shaped_lst hs) (by rw [eqv_self (shaped_lst hs)]; exact q)
/-- a list of scalars and the empty list -/
theorem v_neL0 (h1 : SqL K H p xs) (h2 : SqL K H r []) (hs : xs.all scB = true) (q : Q (.bl (!xs.isEmpty)) H) : rNeX K (.ref p) (.ref r) H Q := by
  refine v_neD (.lst h1 (dpall_sc hs)) (.lst h2 .nil) (shaped_lst hs) (shaped_lst (xs := []) rfl) ?_
  have e : PyData.eqv (.list (xs.map toD)) (.list []) = xs.isEmpty := by
    cases xs with
    | nil => rfl
    | cons a r => rfl
  rw [e]
  exact q
end
/-! ## places -/
theorem atI_lt {α : Type} {xs : List α} {r : Int} (h0 : 0 ≤ r) (h1 : r < xs.length) : ∃ v, atI xs r = some v ∧ v ∈ xs ∧ xs[r.toNat]? = some v := by
  have hl : r.toNat < xs.length := by omega
  refine ⟨xs[r.toNat], ?_, List.getElem_mem _, List.getElem?_eq_getElem hl⟩
  have := atI_nat (xs := xs) (j := r.toNat) (v := xs[r.toNat]) (List.getElem?_eq_getElem hl)
  rwa [Int.toNat_of_nonneg h0] at this
theorem fmod_lt {a n : Int} (h : 0 < n) : 0 ≤ a.fmod n ∧ a.fmod n < n := by
  rw [Int.fmod_eq_emod_of_nonneg _ (by omega)]
  exact ⟨Int.emod_nonneg _ (by omega), Int.emod_lt_of_pos _ h⟩
theorem cl_cut7 (s : Str) : cl (cutS s none (some 7)) = (cl s).take 7 := by
  show (((cl s).drop 0).take (HT.sIx s.length s.length (some 7) - HT.sIx s.length 0 none)) = _
  rw [List.drop_zero]
  have e : HT.sIx s.length s.length (some 7) = min 7 s.length := HT.sIx_nat _ _ 7
  rw [e, cl_len]
  show (cl s).take (min 7 (cl s).length - 0) = _
  rw [Nat.sub_zero, List.take_eq_take_iff]
  omega
theorem nm_cut {s : Str} (h : Nm s) {c : Nat} (h1 : 97 ≤ c) (h2 : c ≤ 122) : Nm (cutS s none (some 7) ++ one c) := by
  have e : cl (cutS s none (some 7) ++ one c) = (cl s).take 7 ++ [c] := by rw [cl_app, cl_cut7, cl_one]
  refine ⟨by rw [e]; simp, ?_, ?_⟩
  · rw [e, List.length_append, List.length_take, List.length_singleton]
    omega
  · rw [e]
    intro d hd
    rcases List.mem_append.mp hd with hd | hd
    · exact h.lt d (List.mem_of_mem_take hd)
    · rw [List.mem_singleton.mp hd]
      exact ⟨h1, h2⟩
def cands (p : Str) : List Str := (List.range 26).map fun j => p ++ one (97 + j)
theorem app_inj {p : Str} {c d : Nat} (h : p ++ one c = p ++ one d) : c = d := by
  have e : cl p ++ [c] = cl p ++ [d] := by
    have := congrArg cl h
    rwa [cl_app, cl_app] at this
  have := List.append_cancel_left e
  injection this
theorem cands_nodup (p : Str) : (cands p).Nodup := by
  unfold cands
  refine List.pairwise_map.mpr (List.Pairwise.imp ?_ List.nodup_range)
  intro a b hab e
  have := app_inj e
  omega
theorem inV_str {z : Str} : ∀ {ns : List Str}, inV (.str z) (ns.map V.str) = decide (z ∈ ns)
  | [] => by simp [inV]
  | a :: r => by
    have ih := inV_str (z := z) (ns := r)
    unfold inV at ih ⊢
    rw [List.map_cons, List.any_cons, ih]
    by_cases h : a = z
    · subst h
      simp [eqV]
    · have h' : ¬ z = a := fun e => h e.symm
      simp [eqV, h, h']
theorem flat_str {ns : List Str} : (ns.map V.str).all flatV = true := by
  rw [List.all_map]
  exact List.all_eq_true.mpr fun _ _ => rfl
theorem sc_str {ns : List Str} (h : ∀ s ∈ ns, Nm s) : (ns.map V.str).all scB = true := by
  rw [List.all_map]
  exact List.all_eq_true.mpr fun s hs => (h s hs).ok
theorem v_niStr {K : PySem.W.Frag} {H : Hp} {Q : VK} {z : Str} {l : Addr} {ns : List Str} (h : SqL K H l (ns.map V.str)) (q : Q (.bl (!decide (z ∈ ns))) H) : rNotInX K (.str z) (.ref l) H Q :=
  .inl ⟨l, ns.map V.str, rfl, .inl h, rfl, flat_str, by rw [inV_str]; exact q⟩
end Kn

set_option Elab.async false
set_option linter.all false
set_option maxRecDepth 100000
set_option maxHeartbeats 0
namespace Kn
open PySem PySem.Spec PyProof.Rows L2
def top (i : Nat) : Stmt := PySem.Challenge.pw_knotpurse_k04_entries_told.main.body.getD i (.Pass ⟨0, 0, 0, 0⟩)
abbrev s_is_whole : Stmt := top 6
abbrev nm_is_whole : List Str := ["thing"]
theorem sc_is_whole : FnScope nm_is_whole ["thing"] (defScope s_is_whole) := ⟨rfl, rfl, rfl, by decide +kernel, rfl, by decide +kernel, by decide +kernel⟩
abbrev s_within : Stmt := top 7
abbrev nm_within : List Str := ["thing", "least", "most"]
theorem sc_within : FnScope nm_within ["thing", "least", "most"] (defScope s_within) := ⟨rfl, rfl, rfl, by decide +kernel, rfl, by decide +kernel, by decide +kernel⟩
abbrev s_is_name : Stmt := top 8
abbrev nm_is_name : List Str := ["thing"]
theorem sc_is_name : FnScope nm_is_name ["thing"] (defScope s_is_name) := ⟨rfl, rfl, rfl, by decide +kernel, rfl, by decide +kernel, by decide +kernel⟩
abbrev s_check : Stmt := top 13
abbrev nm_check : List Str := ["good"]
theorem sc_check : FnScope nm_check ["good"] (defScope s_check) := ⟨rfl, rfl, rfl, by decide +kernel, rfl, by decide +kernel, by decide +kernel⟩
abbrev s_check_coins : Stmt := top 14
abbrev nm_check_coins : List Str := ["coins", "note"]
theorem sc_check_coins : FnScope nm_check_coins ["coins", "note"] (defScope s_check_coins) := ⟨rfl, rfl, rfl, by decide +kernel, rfl, by decide +kernel, by decide +kernel⟩
abbrev s_Entry_told : Stmt := inClass (top 15) 0
abbrev nm_Entry_told : List Str := ["self"]
theorem sc_Entry_told : FnScope nm_Entry_told ["self"] (defScope s_Entry_told) := ⟨rfl, rfl, rfl, by decide +kernel, rfl, by decide +kernel, by decide +kernel⟩
abbrev s_Entry_named : Stmt := inClass (top 15) 1
abbrev nm_Entry_named : List Str := ["self"]
theorem sc_Entry_named : FnScope nm_Entry_named ["self"] (defScope s_Entry_named) := ⟨rfl, rfl, rfl, by decide +kernel, rfl, by decide +kernel, by decide +kernel⟩
abbrev s_Entry_lasts : Stmt := inClass (top 15) 2
abbrev nm_Entry_lasts : List Str := ["self", "year", "date"]
theorem sc_Entry_lasts : FnScope nm_Entry_lasts ["self", "year", "date"] (defScope s_Entry_lasts) := ⟨rfl, rfl, rfl, by decide +kernel, rfl, by decide +kernel, by decide +kernel⟩
abbrev s_Entry_fits : Stmt := inClass (top 15) 3
abbrev nm_Entry_fits : List Str := ["self", "year", "date", "names", "head"]
theorem sc_Entry_fits : FnScope nm_Entry_fits ["self", "year", "date"] (defScope s_Entry_fits) := ⟨rfl, rfl, rfl, by decide +kernel, rfl, by decide +kernel, by decide +kernel⟩
abbrev s_Give___init__ : Stmt := inClass (top 16) 0
abbrev nm_Give___init__ : List Str := ["self", "head", "coins", "note"]
theorem sc_Give___init__ : FnScope nm_Give___init__ ["self", "head", "coins", "note"] (defScope s_Give___init__) := ⟨rfl, rfl, rfl, by decide +kernel, rfl, by decide +kernel, by decide +kernel⟩
abbrev s_Give_told : Stmt := inClass (top 16) 1
abbrev nm_Give_told : List Str := ["self"]
theorem sc_Give_told : FnScope nm_Give_told ["self"] (defScope s_Give_told) := ⟨rfl, rfl, rfl, by decide +kernel, rfl, by decide +kernel, by decide +kernel⟩
abbrev s_Give_named : Stmt := inClass (top 16) 2
abbrev nm_Give_named : List Str := ["self"]
theorem sc_Give_named : FnScope nm_Give_named ["self"] (defScope s_Give_named) := ⟨rfl, rfl, rfl, by decide +kernel, rfl, by decide +kernel, by decide +kernel⟩
abbrev s_Hold___init__ : Stmt := inClass (top 17) 0
abbrev nm_Hold___init__ : List Str := ["self", "head", "coins", "until", "note"]
theorem sc_Hold___init__ : FnScope nm_Hold___init__ ["self", "head", "coins", "until", "note"] (defScope s_Hold___init__) := ⟨rfl, rfl, rfl, by decide +kernel, rfl, by decide +kernel, by decide +kernel⟩
abbrev s_Hold_told : Stmt := inClass (top 17) 1
abbrev nm_Hold_told : List Str := ["self"]
theorem sc_Hold_told : FnScope nm_Hold_told ["self"] (defScope s_Hold_told) := ⟨rfl, rfl, rfl, by decide +kernel, rfl, by decide +kernel, by decide +kernel⟩
abbrev s_Hold_named : Stmt := inClass (top 17) 2
abbrev nm_Hold_named : List Str := ["self"]
theorem sc_Hold_named : FnScope nm_Hold_named ["self"] (defScope s_Hold_named) := ⟨rfl, rfl, rfl, by decide +kernel, rfl, by decide +kernel, by decide +kernel⟩
abbrev s_Hold_lasts : Stmt := inClass (top 17) 3
abbrev nm_Hold_lasts : List Str := ["self", "year", "date"]
theorem sc_Hold_lasts : FnScope nm_Hold_lasts ["self", "year", "date"] (defScope s_Hold_lasts) := ⟨rfl, rfl, rfl, by decide +kernel, rfl, by decide +kernel, by decide +kernel⟩
abbrev s_Move___init__ : Stmt := inClass (top 18) 0
abbrev nm_Move___init__ : List Str := ["self", "head", "other", "coins", "note"]
theorem sc_Move___init__ : FnScope nm_Move___init__ ["self", "head", "other", "coins", "note"] (defScope s_Move___init__) := ⟨rfl, rfl, rfl, by decide +kernel, rfl, by decide +kernel, by decide +kernel⟩
abbrev s_Move_told : Stmt := inClass (top 18) 1
abbrev nm_Move_told : List Str := ["self"]
theorem sc_Move_told : FnScope nm_Move_told ["self"] (defScope s_Move_told) := ⟨rfl, rfl, rfl, by decide +kernel, rfl, by decide +kernel, by decide +kernel⟩
abbrev s_Move_named : Stmt := inClass (top 18) 2
abbrev nm_Move_named : List Str := ["self"]
theorem sc_Move_named : FnScope nm_Move_named ["self"] (defScope s_Move_named) := ⟨rfl, rfl, rfl, by decide +kernel, rfl, by decide +kernel, by decide +kernel⟩
abbrev s_Spend___init__ : Stmt := inClass (top 19) 0
abbrev nm_Spend___init__ : List Str := ["self", "head", "coins", "note"]
theorem sc_Spend___init__ : FnScope nm_Spend___init__ ["self", "head", "coins", "note"] (defScope s_Spend___init__) := ⟨rfl, rfl, rfl, by decide +kernel, rfl, by decide +kernel, by decide +kernel⟩
abbrev s_Spend_told : Stmt := inClass (top 19) 1
abbrev nm_Spend_told : List Str := ["self"]
theorem sc_Spend_told : FnScope nm_Spend_told ["self"] (defScope s_Spend_told) := ⟨rfl, rfl, rfl, by decide +kernel, rfl, by decide +kernel, by decide +kernel⟩
abbrev s_Spend_named : Stmt := inClass (top 19) 2
abbrev nm_Spend_named : List Str := ["self"]
theorem sc_Spend_named : FnScope nm_Spend_named ["self"] (defScope s_Spend_named) := ⟨rfl, rfl, rfl, by decide +kernel, rfl, by decide +kernel, by decide +kernel⟩
abbrev s_Promise___init__ : Stmt := inClass (top 20) 0
abbrev nm_Promise___init__ : List Str := ["self", "word", "head", "coins", "note"]
theorem sc_Promise___init__ : FnScope nm_Promise___init__ ["self", "word", "head", "coins", "note"] (defScope s_Promise___init__) := ⟨rfl, rfl, rfl, by decide +kernel, rfl, by decide +kernel, by decide +kernel⟩
abbrev s_Promise_told : Stmt := inClass (top 20) 1
abbrev nm_Promise_told : List Str := ["self"]
theorem sc_Promise_told : FnScope nm_Promise_told ["self"] (defScope s_Promise_told) := ⟨rfl, rfl, rfl, by decide +kernel, rfl, by decide +kernel, by decide +kernel⟩
abbrev s_Promise_named : Stmt := inClass (top 20) 2
abbrev nm_Promise_named : List Str := ["self"]
theorem sc_Promise_named : FnScope nm_Promise_named ["self"] (defScope s_Promise_named) := ⟨rfl, rfl, rfl, by decide +kernel, rfl, by decide +kernel, by decide +kernel⟩
abbrev s_Lessen___init__ : Stmt := inClass (top 21) 0
abbrev nm_Lessen___init__ : List Str := ["self", "word", "coins", "note"]
theorem sc_Lessen___init__ : FnScope nm_Lessen___init__ ["self", "word", "coins", "note"] (defScope s_Lessen___init__) := ⟨rfl, rfl, rfl, by decide +kernel, rfl, by decide +kernel, by decide +kernel⟩
abbrev s_Lessen_told : Stmt := inClass (top 21) 1
abbrev nm_Lessen_told : List Str := ["self"]
theorem sc_Lessen_told : FnScope nm_Lessen_told ["self"] (defScope s_Lessen_told) := ⟨rfl, rfl, rfl, by decide +kernel, rfl, by decide +kernel, by decide +kernel⟩
abbrev s_Out___init__ : Stmt := inClass (top 22) 0
abbrev nm_Out___init__ : List Str := ["self", "word", "coins", "note"]
theorem sc_Out___init__ : FnScope nm_Out___init__ ["self", "word", "coins", "note"] (defScope s_Out___init__) := ⟨rfl, rfl, rfl, by decide +kernel, rfl, by decide +kernel, by decide +kernel⟩
abbrev s_Out_told : Stmt := inClass (top 22) 1
abbrev nm_Out_told : List Str := ["self"]
theorem sc_Out_told : FnScope nm_Out_told ["self"] (defScope s_Out_told) := ⟨rfl, rfl, rfl, by decide +kernel, rfl, by decide +kernel, by decide +kernel⟩
abbrev s_read_entry : Stmt := top 23
abbrev nm_read_entry : List Str := ["told"]
theorem sc_read_entry : FnScope nm_read_entry ["told"] (defScope s_read_entry) := ⟨rfl, rfl, rfl, by decide +kernel, rfl, by decide +kernel, by decide +kernel⟩
abbrev s_Lcell_at : Stmt := top 25
abbrev nm_Lcell_at : List Str := ["_law_script", "_law_k"]
theorem sc_Lcell_at : FnScope nm_Lcell_at ["_law_script", "_law_k"] (defScope s_Lcell_at) := ⟨rfl, rfl, rfl, by decide +kernel, rfl, by decide +kernel, by decide +kernel⟩
abbrev s_Lwell : Stmt := top 26
abbrev nm_Lwell : List Str := ["_law_cell"]
theorem sc_Lwell : FnScope nm_Lwell ["_law_cell"] (defScope s_Lwell) := ⟨rfl, rfl, rfl, by decide +kernel, rfl, by decide +kernel, by decide +kernel⟩
abbrev s_Ldraw : Stmt := top 27
abbrev nm_Ldraw : List Str := ["_law_well_here", "_law_many", "_law_found", "_law_number"]
theorem sc_Ldraw : FnScope nm_Ldraw ["_law_well_here", "_law_many"] (defScope s_Ldraw) := ⟨rfl, rfl, rfl, by decide +kernel, rfl, by decide +kernel, by decide +kernel⟩
abbrev s_Lname : Stmt := top 28
abbrev nm_Lname : List Str := ["_law_well_here", "_law_some", "_law_signs", "_law_k"]
theorem sc_Lname : FnScope nm_Lname ["_law_well_here"] (defScope s_Lname) := ⟨rfl, rfl, rfl, by decide +kernel, rfl, by decide +kernel, by decide +kernel⟩
abbrev s_Lnames : Stmt := top 29
abbrev nm_Lnames : List Str := ["_law_well_here", "_law_many", "_law_found", "_law_k", "_law_name_here", "_law_some", "_law_sign", "_law_one"]
theorem sc_Lnames : FnScope nm_Lnames ["_law_well_here", "_law_many"] (defScope s_Lnames) := ⟨rfl, rfl, rfl, by decide +kernel, rfl, by decide +kernel, by decide +kernel⟩
abbrev s_Lcoins : Stmt := top 30
abbrev nm_Lcoins : List Str := ["_law_well_here"]
theorem sc_Lcoins : FnScope nm_Lcoins ["_law_well_here"] (defScope s_Lcoins) := ⟨rfl, rfl, rfl, by decide +kernel, rfl, by decide +kernel, by decide +kernel⟩
abbrev s_Ltold : Stmt := top 31
abbrev nm_Ltold : List Str := ["_law_well_here", "_law_kind", "_law_one", "_law_other", "_law_coins_here", "_law_note"]
theorem sc_Ltold : FnScope nm_Ltold ["_law_well_here"] (defScope s_Ltold) := ⟨rfl, rfl, rfl, by decide +kernel, rfl, by decide +kernel, by decide +kernel⟩
abbrev s_Lmade : Stmt := top 32
abbrev nm_Lmade : List Str := ["_law_told_here"]
theorem sc_Lmade : FnScope nm_Lmade ["_law_told_here"] (defScope s_Lmade) := ⟨rfl, rfl, rfl, by decide +kernel, rfl, by decide +kernel, by decide +kernel⟩
abbrev s_Lkinds : Stmt := top 33
abbrev nm_Lkinds : List Str := ["_law_entry", "_law_found"]
theorem sc_Lkinds : FnScope nm_Lkinds ["_law_entry"] (defScope s_Lkinds) := ⟨rfl, rfl, rfl, by decide +kernel, rfl, by decide +kernel, by decide +kernel⟩
abbrev s_Lfields : Stmt := top 34
abbrev nm_Lfields : List Str := ["_law_entry", "_law_kind"]
theorem sc_Lfields : FnScope nm_Lfields ["_law_entry", "_law_kind"] (defScope s_Lfields) := ⟨rfl, rfl, rfl, by decide +kernel, rfl, by decide +kernel, by decide +kernel⟩
abbrev s_Lis : Stmt := top 35
abbrev nm_Lis : List Str := ["_law_entry", "_law_told_here", "_law_kinds_here", "_law_found", "_law_kind", "_law_one"]
theorem sc_Lis : FnScope nm_Lis ["_law_entry", "_law_told_here"] (defScope s_Lis) := ⟨rfl, rfl, rfl, by decide +kernel, rfl, by decide +kernel, by decide +kernel⟩
abbrev s_law : Stmt := top 36
abbrev nm_law : List Str := ["_law_script", "_law_entries", "_law_cell", "_law_told_here", "_law_entry"]
theorem sc_law : FnScope nm_law ["_law_script"] (defScope s_law) := ⟨rfl, rfl, rfl, by decide +kernel, rfl, by decide +kernel, by decide +kernel⟩
def dd_is_whole : He.DefD := ⟨("is_whole", none), "is_whole", "is_whole", defArgs s_is_whole, defBody s_is_whole, defScope s_is_whole, [], []⟩
def dd_within : He.DefD := ⟨("within", none), "within", "within", defArgs s_within, defBody s_within, defScope s_within, [], []⟩
def dd_is_name : He.DefD := ⟨("is_name", none), "is_name", "is_name", defArgs s_is_name, defBody s_is_name, defScope s_is_name, [], []⟩
def dd_check : He.DefD := ⟨("check", none), "check", "check", defArgs s_check, defBody s_check, defScope s_check, [], []⟩
def dd_check_coins : He.DefD := ⟨("check_coins", none), "check_coins", "check_coins", defArgs s_check_coins, defBody s_check_coins, defScope s_check_coins, [], []⟩
def dd_Entry_told : He.DefD := ⟨("Entry", some "told"), "told", "Entry.told", defArgs s_Entry_told, defBody s_Entry_told, defScope s_Entry_told, [], []⟩
def dd_Entry_named : He.DefD := ⟨("Entry", some "named"), "named", "Entry.named", defArgs s_Entry_named, defBody s_Entry_named, defScope s_Entry_named, [], []⟩
def dd_Entry_lasts : He.DefD := ⟨("Entry", some "lasts"), "lasts", "Entry.lasts", defArgs s_Entry_lasts, defBody s_Entry_lasts, defScope s_Entry_lasts, [], []⟩
def dd_Entry_fits : He.DefD := ⟨("Entry", some "fits"), "fits", "Entry.fits", defArgs s_Entry_fits, defBody s_Entry_fits, defScope s_Entry_fits, [], []⟩
def dd_Give___init__ : He.DefD := ⟨("Give", some "__init__"), "__init__", "Give.__init__", defArgs s_Give___init__, defBody s_Give___init__, defScope s_Give___init__, [], []⟩
def dd_Give_told : He.DefD := ⟨("Give", some "told"), "told", "Give.told", defArgs s_Give_told, defBody s_Give_told, defScope s_Give_told, [], []⟩
def dd_Give_named : He.DefD := ⟨("Give", some "named"), "named", "Give.named", defArgs s_Give_named, defBody s_Give_named, defScope s_Give_named, [], []⟩
def dd_Hold___init__ : He.DefD := ⟨("Hold", some "__init__"), "__init__", "Hold.__init__", defArgs s_Hold___init__, defBody s_Hold___init__, defScope s_Hold___init__, [], []⟩
def dd_Hold_told : He.DefD := ⟨("Hold", some "told"), "told", "Hold.told", defArgs s_Hold_told, defBody s_Hold_told, defScope s_Hold_told, [], []⟩
def dd_Hold_named : He.DefD := ⟨("Hold", some "named"), "named", "Hold.named", defArgs s_Hold_named, defBody s_Hold_named, defScope s_Hold_named, [], []⟩
def dd_Hold_lasts : He.DefD := ⟨("Hold", some "lasts"), "lasts", "Hold.lasts", defArgs s_Hold_lasts, defBody s_Hold_lasts, defScope s_Hold_lasts, [], []⟩
def dd_Move___init__ : He.DefD := ⟨("Move", some "__init__"), "__init__", "Move.__init__", defArgs s_Move___init__, defBody s_Move___init__, defScope s_Move___init__, [], []⟩
def dd_Move_told : He.DefD := ⟨("Move", some "told"), "told", "Move.told", defArgs s_Move_told, defBody s_Move_told, defScope s_Move_told, [], []⟩
def dd_Move_named : He.DefD := ⟨("Move", some "named"), "named", "Move.named", defArgs s_Move_named, defBody s_Move_named, defScope s_Move_named, [], []⟩
def dd_Spend___init__ : He.DefD := ⟨("Spend", some "__init__"), "__init__", "Spend.__init__", defArgs s_Spend___init__, defBody s_Spend___init__, defScope s_Spend___init__, [], []⟩
def dd_Spend_told : He.DefD := ⟨("Spend", some "told"), "told", "Spend.told", defArgs s_Spend_told, defBody s_Spend_told, defScope s_Spend_told, [], []⟩
def dd_Spend_named : He.DefD := ⟨("Spend", some "named"), "named", "Spend.named", defArgs s_Spend_named, defBody s_Spend_named, defScope s_Spend_named, [], []⟩
def dd_Promise___init__ : He.DefD := ⟨("Promise", some "__init__"), "__init__", "Promise.__init__", defArgs s_Promise___init__, defBody s_Promise___init__, defScope s_Promise___init__, [], []⟩
def dd_Promise_told : He.DefD := ⟨("Promise", some "told"), "told", "Promise.told", defArgs s_Promise_told, defBody s_Promise_told, defScope s_Promise_told, [], []⟩
def dd_Promise_named : He.DefD := ⟨("Promise", some "named"), "named", "Promise.named", defArgs s_Promise_named, defBody s_Promise_named, defScope s_Promise_named, [], []⟩
def dd_Lessen___init__ : He.DefD := ⟨("Lessen", some "__init__"), "__init__", "Lessen.__init__", defArgs s_Lessen___init__, defBody s_Lessen___init__, defScope s_Lessen___init__, [], []⟩
def dd_Lessen_told : He.DefD := ⟨("Lessen", some "told"), "told", "Lessen.told", defArgs s_Lessen_told, defBody s_Lessen_told, defScope s_Lessen_told, [], []⟩
def dd_Out___init__ : He.DefD := ⟨("Out", some "__init__"), "__init__", "Out.__init__", defArgs s_Out___init__, defBody s_Out___init__, defScope s_Out___init__, [], []⟩
def dd_Out_told : He.DefD := ⟨("Out", some "told"), "told", "Out.told", defArgs s_Out_told, defBody s_Out_told, defScope s_Out_told, [], []⟩
def dd_read_entry : He.DefD := ⟨("read_entry", none), "read_entry", "read_entry", defArgs s_read_entry, defBody s_read_entry, defScope s_read_entry, [], []⟩
def dd_Lcell_at : He.DefD := ⟨("_law_cell_at", none), "_law_cell_at", "_law_cell_at", defArgs s_Lcell_at, defBody s_Lcell_at, defScope s_Lcell_at, [], []⟩
def dd_Lwell : He.DefD := ⟨("_law_well", none), "_law_well", "_law_well", defArgs s_Lwell, defBody s_Lwell, defScope s_Lwell, [], []⟩
def dd_Ldraw : He.DefD := ⟨("_law_draw", none), "_law_draw", "_law_draw", defArgs s_Ldraw, defBody s_Ldraw, defScope s_Ldraw, [], []⟩
def dd_Lname : He.DefD := ⟨("_law_name", none), "_law_name", "_law_name", defArgs s_Lname, defBody s_Lname, defScope s_Lname, [], []⟩
def dd_Lnames : He.DefD := ⟨("_law_names", none), "_law_names", "_law_names", defArgs s_Lnames, defBody s_Lnames, defScope s_Lnames, [], []⟩
def dd_Lcoins : He.DefD := ⟨("_law_coins", none), "_law_coins", "_law_coins", defArgs s_Lcoins, defBody s_Lcoins, defScope s_Lcoins, [], []⟩
def dd_Ltold : He.DefD := ⟨("_law_told", none), "_law_told", "_law_told", defArgs s_Ltold, defBody s_Ltold, defScope s_Ltold, [], []⟩
def dd_Lmade : He.DefD := ⟨("_law_made", none), "_law_made", "_law_made", defArgs s_Lmade, defBody s_Lmade, defScope s_Lmade, [], []⟩
def dd_Lkinds : He.DefD := ⟨("_law_kinds", none), "_law_kinds", "_law_kinds", defArgs s_Lkinds, defBody s_Lkinds, defScope s_Lkinds, [], []⟩
def dd_Lfields : He.DefD := ⟨("_law_fields", none), "_law_fields", "_law_fields", defArgs s_Lfields, defBody s_Lfields, defScope s_Lfields, [], []⟩
def dd_Lis : He.DefD := ⟨("_law_is", none), "_law_is", "_law_is", defArgs s_Lis, defBody s_Lis, defScope s_Lis, [], []⟩
def dd_law : He.DefD := ⟨("law", none), "law", "law", defArgs s_law, defBody s_law, defScope s_law, [], []⟩
def fnA_0 : List He.DefD := [dd_is_whole,
  dd_within,
  dd_is_name,
  dd_check,
  dd_check_coins,
  dd_Entry_told,
  dd_Entry_named,
  dd_Entry_lasts,
  dd_Entry_fits,
  dd_Give___init__,
  dd_Give_told,
  dd_Give_named,
  dd_Hold___init__,
  dd_Hold_told,
  dd_Hold_named,
  dd_Hold_lasts,
  dd_Move___init__,
  dd_Move_told,
  dd_Move_named,
  dd_Spend___init__,
  dd_Spend_told,
  dd_Spend_named,
  dd_Promise___init__,
  dd_Promise_told,
  dd_Promise_named]
def fnA_1 : List He.DefD := [dd_Lessen___init__,
  dd_Lessen_told,
  dd_Out___init__,
  dd_Out_told,
  dd_read_entry,
  dd_Lcell_at,
  dd_Lwell,
  dd_Ldraw,
  dd_Lname,
  dd_Lnames,
  dd_Lcoins,
  dd_Ltold,
  dd_Lmade,
  dd_Lkinds,
  dd_Lfields,
  dd_Lis,
  dd_law]
def fnA : List He.DefD := fnA_0 ++ fnA_1
def fxA_0 (K : PySem.W.Frag) : List Bool := [(He.Fa.glo "is_whole").ok K,
  (He.Fa.glo "within").ok K,
  (He.Fa.glo "is_name").ok K,
  (He.Fa.glo "check").ok K,
  (He.Fa.glo "check_coins").ok K,
  (He.Fa.glo "read_entry").ok K,
  (He.Fa.glo "_law_cell_at").ok K,
  (He.Fa.glo "_law_well").ok K,
  (He.Fa.glo "_law_draw").ok K,
  (He.Fa.glo "_law_name").ok K,
  (He.Fa.glo "_law_names").ok K,
  (He.Fa.glo "_law_coins").ok K,
  (He.Fa.glo "_law_told").ok K,
  (He.Fa.glo "_law_made").ok K,
  (He.Fa.glo "_law_kinds").ok K,
  (He.Fa.glo "_law_fields").ok K,
  (He.Fa.glo "_law_is").ok K,
  (He.Fa.glo "law").ok K,
  (He.Fa.glo "PurseError").ok K,
  (He.Fa.glo "NoEntry").ok K,
  (He.Fa.glo "Entry").ok K,
  (He.Fa.glo "Give").ok K,
  (He.Fa.glo "Hold").ok K,
  (He.Fa.glo "Move").ok K,
  (He.Fa.glo "Spend").ok K]
def fxA_1 (K : PySem.W.Frag) : List Bool := [(He.Fa.glo "Promise").ok K,
  (He.Fa.glo "Lessen").ok K,
  (He.Fa.glo "Out").ok K,
  (He.Fa.str "LETTERS" "abcdefghijklmnopqrstuvwxyz").ok K,
  (He.Fa.int "MOST_SIGNS" 8).ok K,
  (He.Fa.int "MOST_COINS" 1000000000000).ok K,
  (He.Fa.int "LAST_UNTIL" 31).ok K,
  (He.Fa.glo "SIZES").ok K,
  (He.Fa.free "len").ok K,
  (He.Fa.free "isinstance").ok K,
  (He.Fa.free "int").ok K,
  (He.Fa.free "str").ok K,
  (He.Fa.free "bool").ok K,
  (He.Fa.free "range").ok K,
  (He.Fa.free "tuple").ok K,
  (He.Fa.exc "PurseError").ok K,
  (He.Fa.exc "NoEntry").ok K,
  (He.Fa.cls "Entry").ok K,
  insB K (He.ga K "Entry"),
  (He.Fa.meth "Entry" "told").ok K,
  (He.Fa.meth "Entry" "named").ok K,
  (He.Fa.meth "Entry" "lasts").ok K,
  (He.Fa.meth "Entry" "fits").ok K,
  (He.Fa.cls "Give").ok K,
  insB K (He.ga K "Give")]
def fxA_2 (K : PySem.W.Frag) : List Bool := [(He.Fa.noat "Give" "head").ok K,
  (He.Fa.noat "Give" "coins").ok K,
  (He.Fa.noat "Give" "note").ok K,
  (He.Fa.noat "Give" "until").ok K,
  (He.Fa.noat "Give" "other").ok K,
  (He.Fa.noat "Give" "word").ok K,
  (He.Fa.mkr "Give").ok K,
  (He.Fa.meth "Give" "told").ok K,
  (He.Fa.meth "Give" "named").ok K,
  (He.Fa.meth "Give" "lasts").ok K,
  (He.Fa.meth "Give" "fits").ok K,
  (He.Fa.cls "Hold").ok K,
  insB K (He.ga K "Hold"),
  (He.Fa.noat "Hold" "head").ok K,
  (He.Fa.noat "Hold" "coins").ok K,
  (He.Fa.noat "Hold" "note").ok K,
  (He.Fa.noat "Hold" "until").ok K,
  (He.Fa.noat "Hold" "other").ok K,
  (He.Fa.noat "Hold" "word").ok K,
  (He.Fa.mkr "Hold").ok K,
  (He.Fa.meth "Hold" "told").ok K,
  (He.Fa.meth "Hold" "named").ok K,
  (He.Fa.meth "Hold" "lasts").ok K,
  (He.Fa.meth "Hold" "fits").ok K,
  (He.Fa.cls "Move").ok K]
def fxA_3 (K : PySem.W.Frag) : List Bool := [insB K (He.ga K "Move"),
  (He.Fa.noat "Move" "head").ok K,
  (He.Fa.noat "Move" "coins").ok K,
  (He.Fa.noat "Move" "note").ok K,
  (He.Fa.noat "Move" "until").ok K,
  (He.Fa.noat "Move" "other").ok K,
  (He.Fa.noat "Move" "word").ok K,
  (He.Fa.mkr "Move").ok K,
  (He.Fa.meth "Move" "told").ok K,
  (He.Fa.meth "Move" "named").ok K,
  (He.Fa.meth "Move" "lasts").ok K,
  (He.Fa.meth "Move" "fits").ok K,
  (He.Fa.cls "Spend").ok K,
  insB K (He.ga K "Spend"),
  (He.Fa.noat "Spend" "head").ok K,
  (He.Fa.noat "Spend" "coins").ok K,
  (He.Fa.noat "Spend" "note").ok K,
  (He.Fa.noat "Spend" "until").ok K,
  (He.Fa.noat "Spend" "other").ok K,
  (He.Fa.noat "Spend" "word").ok K,
  (He.Fa.mkr "Spend").ok K,
  (He.Fa.meth "Spend" "told").ok K,
  (He.Fa.meth "Spend" "named").ok K,
  (He.Fa.meth "Spend" "lasts").ok K,
  (He.Fa.meth "Spend" "fits").ok K]
def fxA_4 (K : PySem.W.Frag) : List Bool := [(He.Fa.cls "Promise").ok K,
  insB K (He.ga K "Promise"),
  (He.Fa.noat "Promise" "head").ok K,
  (He.Fa.noat "Promise" "coins").ok K,
  (He.Fa.noat "Promise" "note").ok K,
  (He.Fa.noat "Promise" "until").ok K,
  (He.Fa.noat "Promise" "other").ok K,
  (He.Fa.noat "Promise" "word").ok K,
  (He.Fa.mkr "Promise").ok K,
  (He.Fa.meth "Promise" "told").ok K,
  (He.Fa.meth "Promise" "named").ok K,
  (He.Fa.meth "Promise" "lasts").ok K,
  (He.Fa.meth "Promise" "fits").ok K,
  (He.Fa.cls "Lessen").ok K,
  insB K (He.ga K "Lessen"),
  (He.Fa.noat "Lessen" "head").ok K,
  (He.Fa.noat "Lessen" "coins").ok K,
  (He.Fa.noat "Lessen" "note").ok K,
  (He.Fa.noat "Lessen" "until").ok K,
  (He.Fa.noat "Lessen" "other").ok K,
  (He.Fa.noat "Lessen" "word").ok K,
  (He.Fa.mkr "Lessen").ok K,
  (He.Fa.meth "Lessen" "told").ok K,
  (He.Fa.meth "Lessen" "named").ok K,
  (He.Fa.meth "Lessen" "lasts").ok K]
def fxA_5 (K : PySem.W.Frag) : List Bool := [(He.Fa.meth "Lessen" "fits").ok K,
  (He.Fa.cls "Out").ok K,
  insB K (He.ga K "Out"),
  (He.Fa.noat "Out" "head").ok K,
  (He.Fa.noat "Out" "coins").ok K,
  (He.Fa.noat "Out" "note").ok K,
  (He.Fa.noat "Out" "until").ok K,
  (He.Fa.noat "Out" "other").ok K,
  (He.Fa.noat "Out" "word").ok K,
  (He.Fa.mkr "Out").ok K,
  (He.Fa.meth "Out" "told").ok K,
  (He.Fa.meth "Out" "named").ok K,
  (He.Fa.meth "Out" "lasts").ok K,
  (He.Fa.meth "Out" "fits").ok K,
  decide (PySem.W.kitOne K (.ref (He.ga K "Give")) (.ref (He.ga K "Give")) = some true),
  decide (PySem.W.kitOne K (.ref (He.ga K "Give")) (.ref (He.ga K "Hold")) = some false),
  decide (PySem.W.kitOne K (.ref (He.ga K "Give")) (.ref (He.ga K "Move")) = some false),
  decide (PySem.W.kitOne K (.ref (He.ga K "Give")) (.ref (He.ga K "Spend")) = some false),
  decide (PySem.W.kitOne K (.ref (He.ga K "Give")) (.ref (He.ga K "Promise")) = some false),
  decide (PySem.W.kitOne K (.ref (He.ga K "Give")) (.ref (He.ga K "Lessen")) = some false),
  decide (PySem.W.kitOne K (.ref (He.ga K "Give")) (.ref (He.ga K "Out")) = some false),
  decide (PySem.W.kitOne K (.ref (He.ga K "Hold")) (.ref (He.ga K "Give")) = some false),
  decide (PySem.W.kitOne K (.ref (He.ga K "Hold")) (.ref (He.ga K "Hold")) = some true),
  decide (PySem.W.kitOne K (.ref (He.ga K "Hold")) (.ref (He.ga K "Move")) = some false),
  decide (PySem.W.kitOne K (.ref (He.ga K "Hold")) (.ref (He.ga K "Spend")) = some false)]
def fxA_6 (K : PySem.W.Frag) : List Bool := [decide (PySem.W.kitOne K (.ref (He.ga K "Hold")) (.ref (He.ga K "Promise")) = some false),
  decide (PySem.W.kitOne K (.ref (He.ga K "Hold")) (.ref (He.ga K "Lessen")) = some false),
  decide (PySem.W.kitOne K (.ref (He.ga K "Hold")) (.ref (He.ga K "Out")) = some false),
  decide (PySem.W.kitOne K (.ref (He.ga K "Move")) (.ref (He.ga K "Give")) = some false),
  decide (PySem.W.kitOne K (.ref (He.ga K "Move")) (.ref (He.ga K "Hold")) = some false),
  decide (PySem.W.kitOne K (.ref (He.ga K "Move")) (.ref (He.ga K "Move")) = some true),
  decide (PySem.W.kitOne K (.ref (He.ga K "Move")) (.ref (He.ga K "Spend")) = some false),
  decide (PySem.W.kitOne K (.ref (He.ga K "Move")) (.ref (He.ga K "Promise")) = some false),
  decide (PySem.W.kitOne K (.ref (He.ga K "Move")) (.ref (He.ga K "Lessen")) = some false),
  decide (PySem.W.kitOne K (.ref (He.ga K "Move")) (.ref (He.ga K "Out")) = some false),
  decide (PySem.W.kitOne K (.ref (He.ga K "Spend")) (.ref (He.ga K "Give")) = some false),
  decide (PySem.W.kitOne K (.ref (He.ga K "Spend")) (.ref (He.ga K "Hold")) = some false),
  decide (PySem.W.kitOne K (.ref (He.ga K "Spend")) (.ref (He.ga K "Move")) = some false),
  decide (PySem.W.kitOne K (.ref (He.ga K "Spend")) (.ref (He.ga K "Spend")) = some true),
  decide (PySem.W.kitOne K (.ref (He.ga K "Spend")) (.ref (He.ga K "Promise")) = some false),
  decide (PySem.W.kitOne K (.ref (He.ga K "Spend")) (.ref (He.ga K "Lessen")) = some false),
  decide (PySem.W.kitOne K (.ref (He.ga K "Spend")) (.ref (He.ga K "Out")) = some false),
  decide (PySem.W.kitOne K (.ref (He.ga K "Promise")) (.ref (He.ga K "Give")) = some false),
  decide (PySem.W.kitOne K (.ref (He.ga K "Promise")) (.ref (He.ga K "Hold")) = some false),
  decide (PySem.W.kitOne K (.ref (He.ga K "Promise")) (.ref (He.ga K "Move")) = some false),
  decide (PySem.W.kitOne K (.ref (He.ga K "Promise")) (.ref (He.ga K "Spend")) = some false),
  decide (PySem.W.kitOne K (.ref (He.ga K "Promise")) (.ref (He.ga K "Promise")) = some true),
  decide (PySem.W.kitOne K (.ref (He.ga K "Promise")) (.ref (He.ga K "Lessen")) = some false),
  decide (PySem.W.kitOne K (.ref (He.ga K "Promise")) (.ref (He.ga K "Out")) = some false),
  decide (PySem.W.kitOne K (.ref (He.ga K "Lessen")) (.ref (He.ga K "Give")) = some false)]
def fxA_7 (K : PySem.W.Frag) : List Bool := [decide (PySem.W.kitOne K (.ref (He.ga K "Lessen")) (.ref (He.ga K "Hold")) = some false),
  decide (PySem.W.kitOne K (.ref (He.ga K "Lessen")) (.ref (He.ga K "Move")) = some false),
  decide (PySem.W.kitOne K (.ref (He.ga K "Lessen")) (.ref (He.ga K "Spend")) = some false),
  decide (PySem.W.kitOne K (.ref (He.ga K "Lessen")) (.ref (He.ga K "Promise")) = some false),
  decide (PySem.W.kitOne K (.ref (He.ga K "Lessen")) (.ref (He.ga K "Lessen")) = some true),
  decide (PySem.W.kitOne K (.ref (He.ga K "Lessen")) (.ref (He.ga K "Out")) = some false),
  decide (PySem.W.kitOne K (.ref (He.ga K "Out")) (.ref (He.ga K "Give")) = some false),
  decide (PySem.W.kitOne K (.ref (He.ga K "Out")) (.ref (He.ga K "Hold")) = some false),
  decide (PySem.W.kitOne K (.ref (He.ga K "Out")) (.ref (He.ga K "Move")) = some false),
  decide (PySem.W.kitOne K (.ref (He.ga K "Out")) (.ref (He.ga K "Spend")) = some false),
  decide (PySem.W.kitOne K (.ref (He.ga K "Out")) (.ref (He.ga K "Promise")) = some false),
  decide (PySem.W.kitOne K (.ref (He.ga K "Out")) (.ref (He.ga K "Lessen")) = some false),
  decide (PySem.W.kitOne K (.ref (He.ga K "Out")) (.ref (He.ga K "Out")) = some true),
  decide (PySem.W.kitOne K (.ref (He.ga K "Give")) (.ref (He.ga K "Entry")) = some true),
  decide (PySem.W.kitOne K (.ref (He.ga K "Hold")) (.ref (He.ga K "Entry")) = some true),
  decide (PySem.W.kitOne K (.ref (He.ga K "Move")) (.ref (He.ga K "Entry")) = some true),
  decide (PySem.W.kitOne K (.ref (He.ga K "Spend")) (.ref (He.ga K "Entry")) = some true),
  decide (PySem.W.kitOne K (.ref (He.ga K "Promise")) (.ref (He.ga K "Entry")) = some true),
  decide (PySem.W.kitOne K (.ref (He.ga K "Lessen")) (.ref (He.ga K "Entry")) = some true),
  decide (PySem.W.kitOne K (.ref (He.ga K "Out")) (.ref (He.ga K "Entry")) = some true),
  tabB K (He.ga K "SIZES") [("give", .int 4), ("hold", .int 5), ("move", .int 5), ("spend", .int 4), ("promise", .int 5), ("lessen", .int 4), ("out", .int 4)]]
def fxA (K : PySem.W.Frag) : List Bool := fxA_0 K ++ fxA_1 K ++ fxA_2 K ++ fxA_3 K ++ fxA_4 K ++ fxA_5 K ++ fxA_6 K ++ fxA_7 K
def tsA : List He.Tab := [(fun K => He.ga K "SIZES", ["give", "hold", "move", "spend", "promise", "lessen", "out"])]
structure Tx (P : Program) (w : World) (K : PySem.W.Frag) (mg : Str → Option Value) (base : Heap) : Prop where
  g_is_whole : mg "is_whole" = some (.ref (He.ga K "is_whole"))
  g_within : mg "within" = some (.ref (He.ga K "within"))
  g_is_name : mg "is_name" = some (.ref (He.ga K "is_name"))
  g_check : mg "check" = some (.ref (He.ga K "check"))
  g_check_coins : mg "check_coins" = some (.ref (He.ga K "check_coins"))
  g_read_entry : mg "read_entry" = some (.ref (He.ga K "read_entry"))
  g__law_cell_at : mg "_law_cell_at" = some (.ref (He.ga K "_law_cell_at"))
  g__law_well : mg "_law_well" = some (.ref (He.ga K "_law_well"))
  g__law_draw : mg "_law_draw" = some (.ref (He.ga K "_law_draw"))
  g__law_name : mg "_law_name" = some (.ref (He.ga K "_law_name"))
  g__law_names : mg "_law_names" = some (.ref (He.ga K "_law_names"))
  g__law_coins : mg "_law_coins" = some (.ref (He.ga K "_law_coins"))
  g__law_told : mg "_law_told" = some (.ref (He.ga K "_law_told"))
  g__law_made : mg "_law_made" = some (.ref (He.ga K "_law_made"))
  g__law_kinds : mg "_law_kinds" = some (.ref (He.ga K "_law_kinds"))
  g__law_fields : mg "_law_fields" = some (.ref (He.ga K "_law_fields"))
  g__law_is : mg "_law_is" = some (.ref (He.ga K "_law_is"))
  g_law : mg "law" = some (.ref (He.ga K "law"))
  g_PurseError : mg "PurseError" = some (.ref (He.ga K "PurseError"))
  g_NoEntry : mg "NoEntry" = some (.ref (He.ga K "NoEntry"))
  g_Entry : mg "Entry" = some (.ref (He.ga K "Entry"))
  g_Give : mg "Give" = some (.ref (He.ga K "Give"))
  g_Hold : mg "Hold" = some (.ref (He.ga K "Hold"))
  g_Move : mg "Move" = some (.ref (He.ga K "Move"))
  g_Spend : mg "Spend" = some (.ref (He.ga K "Spend"))
  g_Promise : mg "Promise" = some (.ref (He.ga K "Promise"))
  g_Lessen : mg "Lessen" = some (.ref (He.ga K "Lessen"))
  g_Out : mg "Out" = some (.ref (He.ga K "Out"))
  g_LETTERS : ∃ t, mg "LETTERS" = some (.str "abcdefghijklmnopqrstuvwxyz" t)
  g_MOST_SIGNS : ∃ t, mg "MOST_SIGNS" = some (.int 8 t)
  g_MOST_COINS : ∃ t, mg "MOST_COINS" = some (.int 1000000000000 t)
  g_LAST_UNTIL : ∃ t, mg "LAST_UNTIL" = some (.int 31 t)
  g_SIZES : mg "SIZES" = some (.ref (He.ga K "SIZES"))
  n_len : mg "len" = none
  n_isinstance : mg "isinstance" = none
  n_int : mg "int" = none
  n_str : mg "str" = none
  n_bool : mg "bool" = none
  n_range : mg "range" = none
  n_tuple : mg "tuple" = none
  x_PurseError : PySem.W.excIn K (He.ga K "PurseError") He.veBase "ValueError.__new__" = true ∧ PySem.W.keepIn K (.ref (He.ga K "PurseError")) = true ∧ PySem.W.subIn K (.ref (He.ga K "PurseError")) (.type "BaseException") = some true ∧ PySem.W.typeIn K (.ref (He.ga K "PurseError")) = some (.type "type")
  x_NoEntry : PySem.W.excIn K (He.ga K "NoEntry") He.veBase "ValueError.__new__" = true ∧ PySem.W.keepIn K (.ref (He.ga K "NoEntry")) = true ∧ PySem.W.subIn K (.ref (He.ga K "NoEntry")) (.type "BaseException") = some true ∧ PySem.W.typeIn K (.ref (He.ga K "NoEntry")) = some (.type "type")
  c_Entry : Cls K (He.ga K "Entry")
  i_Entry : InsK K (He.ga K "Entry")
  m_Entry_told : Meth K (He.ga K "Entry") "told" (He.ma K (He.ga K "Entry") "told")
  m_Entry_named : Meth K (He.ga K "Entry") "named" (He.ma K (He.ga K "Entry") "named")
  m_Entry_lasts : Meth K (He.ga K "Entry") "lasts" (He.ma K (He.ga K "Entry") "lasts")
  m_Entry_fits : Meth K (He.ga K "Entry") "fits" (He.ma K (He.ga K "Entry") "fits")
  c_Give : Cls K (He.ga K "Give")
  i_Give : InsK K (He.ga K "Give")
  a_Give_head : NoAttr K (He.ga K "Give") "head"
  a_Give_coins : NoAttr K (He.ga K "Give") "coins"
  a_Give_note : NoAttr K (He.ga K "Give") "note"
  a_Give_until : NoAttr K (He.ga K "Give") "until"
  a_Give_other : NoAttr K (He.ga K "Give") "other"
  a_Give_word : NoAttr K (He.ga K "Give") "word"
  mk_Give : Mk K (He.ga K "Give") (He.ma K (He.ga K "Give") "__init__")
  m_Give_told : Meth K (He.ga K "Give") "told" (He.ma K (He.ga K "Give") "told")
  m_Give_named : Meth K (He.ga K "Give") "named" (He.ma K (He.ga K "Give") "named")
  m_Give_lasts : Meth K (He.ga K "Give") "lasts" (He.ma K (He.ga K "Give") "lasts")
  m_Give_fits : Meth K (He.ga K "Give") "fits" (He.ma K (He.ga K "Give") "fits")
  c_Hold : Cls K (He.ga K "Hold")
  i_Hold : InsK K (He.ga K "Hold")
  a_Hold_head : NoAttr K (He.ga K "Hold") "head"
  a_Hold_coins : NoAttr K (He.ga K "Hold") "coins"
  a_Hold_note : NoAttr K (He.ga K "Hold") "note"
  a_Hold_until : NoAttr K (He.ga K "Hold") "until"
  a_Hold_other : NoAttr K (He.ga K "Hold") "other"
  a_Hold_word : NoAttr K (He.ga K "Hold") "word"
  mk_Hold : Mk K (He.ga K "Hold") (He.ma K (He.ga K "Hold") "__init__")
  m_Hold_told : Meth K (He.ga K "Hold") "told" (He.ma K (He.ga K "Hold") "told")
  m_Hold_named : Meth K (He.ga K "Hold") "named" (He.ma K (He.ga K "Hold") "named")
  m_Hold_lasts : Meth K (He.ga K "Hold") "lasts" (He.ma K (He.ga K "Hold") "lasts")
  m_Hold_fits : Meth K (He.ga K "Hold") "fits" (He.ma K (He.ga K "Hold") "fits")
  c_Move : Cls K (He.ga K "Move")
  i_Move : InsK K (He.ga K "Move")
  a_Move_head : NoAttr K (He.ga K "Move") "head"
  a_Move_coins : NoAttr K (He.ga K "Move") "coins"
  a_Move_note : NoAttr K (He.ga K "Move") "note"
  a_Move_until : NoAttr K (He.ga K "Move") "until"
  a_Move_other : NoAttr K (He.ga K "Move") "other"
  a_Move_word : NoAttr K (He.ga K "Move") "word"
  mk_Move : Mk K (He.ga K "Move") (He.ma K (He.ga K "Move") "__init__")
  m_Move_told : Meth K (He.ga K "Move") "told" (He.ma K (He.ga K "Move") "told")
  m_Move_named : Meth K (He.ga K "Move") "named" (He.ma K (He.ga K "Move") "named")
  m_Move_lasts : Meth K (He.ga K "Move") "lasts" (He.ma K (He.ga K "Move") "lasts")
  m_Move_fits : Meth K (He.ga K "Move") "fits" (He.ma K (He.ga K "Move") "fits")
  c_Spend : Cls K (He.ga K "Spend")
  i_Spend : InsK K (He.ga K "Spend")
  a_Spend_head : NoAttr K (He.ga K "Spend") "head"
  a_Spend_coins : NoAttr K (He.ga K "Spend") "coins"
  a_Spend_note : NoAttr K (He.ga K "Spend") "note"
  a_Spend_until : NoAttr K (He.ga K "Spend") "until"
  a_Spend_other : NoAttr K (He.ga K "Spend") "other"
  a_Spend_word : NoAttr K (He.ga K "Spend") "word"
  mk_Spend : Mk K (He.ga K "Spend") (He.ma K (He.ga K "Spend") "__init__")
  m_Spend_told : Meth K (He.ga K "Spend") "told" (He.ma K (He.ga K "Spend") "told")
  m_Spend_named : Meth K (He.ga K "Spend") "named" (He.ma K (He.ga K "Spend") "named")
  m_Spend_lasts : Meth K (He.ga K "Spend") "lasts" (He.ma K (He.ga K "Spend") "lasts")
  m_Spend_fits : Meth K (He.ga K "Spend") "fits" (He.ma K (He.ga K "Spend") "fits")
  c_Promise : Cls K (He.ga K "Promise")
  i_Promise : InsK K (He.ga K "Promise")
  a_Promise_head : NoAttr K (He.ga K "Promise") "head"
  a_Promise_coins : NoAttr K (He.ga K "Promise") "coins"
  a_Promise_note : NoAttr K (He.ga K "Promise") "note"
  a_Promise_until : NoAttr K (He.ga K "Promise") "until"
  a_Promise_other : NoAttr K (He.ga K "Promise") "other"
  a_Promise_word : NoAttr K (He.ga K "Promise") "word"
  mk_Promise : Mk K (He.ga K "Promise") (He.ma K (He.ga K "Promise") "__init__")
  m_Promise_told : Meth K (He.ga K "Promise") "told" (He.ma K (He.ga K "Promise") "told")
  m_Promise_named : Meth K (He.ga K "Promise") "named" (He.ma K (He.ga K "Promise") "named")
  m_Promise_lasts : Meth K (He.ga K "Promise") "lasts" (He.ma K (He.ga K "Promise") "lasts")
  m_Promise_fits : Meth K (He.ga K "Promise") "fits" (He.ma K (He.ga K "Promise") "fits")
  c_Lessen : Cls K (He.ga K "Lessen")
  i_Lessen : InsK K (He.ga K "Lessen")
  a_Lessen_head : NoAttr K (He.ga K "Lessen") "head"
  a_Lessen_coins : NoAttr K (He.ga K "Lessen") "coins"
  a_Lessen_note : NoAttr K (He.ga K "Lessen") "note"
  a_Lessen_until : NoAttr K (He.ga K "Lessen") "until"
  a_Lessen_other : NoAttr K (He.ga K "Lessen") "other"
  a_Lessen_word : NoAttr K (He.ga K "Lessen") "word"
  mk_Lessen : Mk K (He.ga K "Lessen") (He.ma K (He.ga K "Lessen") "__init__")
  m_Lessen_told : Meth K (He.ga K "Lessen") "told" (He.ma K (He.ga K "Lessen") "told")
  m_Lessen_named : Meth K (He.ga K "Lessen") "named" (He.ma K (He.ga K "Lessen") "named")
  m_Lessen_lasts : Meth K (He.ga K "Lessen") "lasts" (He.ma K (He.ga K "Lessen") "lasts")
  m_Lessen_fits : Meth K (He.ga K "Lessen") "fits" (He.ma K (He.ga K "Lessen") "fits")
  c_Out : Cls K (He.ga K "Out")
  i_Out : InsK K (He.ga K "Out")
  a_Out_head : NoAttr K (He.ga K "Out") "head"
  a_Out_coins : NoAttr K (He.ga K "Out") "coins"
  a_Out_note : NoAttr K (He.ga K "Out") "note"
  a_Out_until : NoAttr K (He.ga K "Out") "until"
  a_Out_other : NoAttr K (He.ga K "Out") "other"
  a_Out_word : NoAttr K (He.ga K "Out") "word"
  mk_Out : Mk K (He.ga K "Out") (He.ma K (He.ga K "Out") "__init__")
  m_Out_told : Meth K (He.ga K "Out") "told" (He.ma K (He.ga K "Out") "told")
  m_Out_named : Meth K (He.ga K "Out") "named" (He.ma K (He.ga K "Out") "named")
  m_Out_lasts : Meth K (He.ga K "Out") "lasts" (He.ma K (He.ga K "Out") "lasts")
  m_Out_fits : Meth K (He.ga K "Out") "fits" (He.ma K (He.ga K "Out") "fits")
  k_Give_Give : PySem.W.kitOne K (.ref (He.ga K "Give")) (.ref (He.ga K "Give")) = some true
  k_Give_Hold : PySem.W.kitOne K (.ref (He.ga K "Give")) (.ref (He.ga K "Hold")) = some false
  k_Give_Move : PySem.W.kitOne K (.ref (He.ga K "Give")) (.ref (He.ga K "Move")) = some false
  k_Give_Spend : PySem.W.kitOne K (.ref (He.ga K "Give")) (.ref (He.ga K "Spend")) = some false
  k_Give_Promise : PySem.W.kitOne K (.ref (He.ga K "Give")) (.ref (He.ga K "Promise")) = some false
  k_Give_Lessen : PySem.W.kitOne K (.ref (He.ga K "Give")) (.ref (He.ga K "Lessen")) = some false
  k_Give_Out : PySem.W.kitOne K (.ref (He.ga K "Give")) (.ref (He.ga K "Out")) = some false
  k_Hold_Give : PySem.W.kitOne K (.ref (He.ga K "Hold")) (.ref (He.ga K "Give")) = some false
  k_Hold_Hold : PySem.W.kitOne K (.ref (He.ga K "Hold")) (.ref (He.ga K "Hold")) = some true
  k_Hold_Move : PySem.W.kitOne K (.ref (He.ga K "Hold")) (.ref (He.ga K "Move")) = some false
  k_Hold_Spend : PySem.W.kitOne K (.ref (He.ga K "Hold")) (.ref (He.ga K "Spend")) = some false
  k_Hold_Promise : PySem.W.kitOne K (.ref (He.ga K "Hold")) (.ref (He.ga K "Promise")) = some false
  k_Hold_Lessen : PySem.W.kitOne K (.ref (He.ga K "Hold")) (.ref (He.ga K "Lessen")) = some false
  k_Hold_Out : PySem.W.kitOne K (.ref (He.ga K "Hold")) (.ref (He.ga K "Out")) = some false
  k_Move_Give : PySem.W.kitOne K (.ref (He.ga K "Move")) (.ref (He.ga K "Give")) = some false
  k_Move_Hold : PySem.W.kitOne K (.ref (He.ga K "Move")) (.ref (He.ga K "Hold")) = some false
  k_Move_Move : PySem.W.kitOne K (.ref (He.ga K "Move")) (.ref (He.ga K "Move")) = some true
  k_Move_Spend : PySem.W.kitOne K (.ref (He.ga K "Move")) (.ref (He.ga K "Spend")) = some false
  k_Move_Promise : PySem.W.kitOne K (.ref (He.ga K "Move")) (.ref (He.ga K "Promise")) = some false
  k_Move_Lessen : PySem.W.kitOne K (.ref (He.ga K "Move")) (.ref (He.ga K "Lessen")) = some false
  k_Move_Out : PySem.W.kitOne K (.ref (He.ga K "Move")) (.ref (He.ga K "Out")) = some false
  k_Spend_Give : PySem.W.kitOne K (.ref (He.ga K "Spend")) (.ref (He.ga K "Give")) = some false
  k_Spend_Hold : PySem.W.kitOne K (.ref (He.ga K "Spend")) (.ref (He.ga K "Hold")) = some false
  k_Spend_Move : PySem.W.kitOne K (.ref (He.ga K "Spend")) (.ref (He.ga K "Move")) = some false
  k_Spend_Spend : PySem.W.kitOne K (.ref (He.ga K "Spend")) (.ref (He.ga K "Spend")) = some true
  k_Spend_Promise : PySem.W.kitOne K (.ref (He.ga K "Spend")) (.ref (He.ga K "Promise")) = some false
  k_Spend_Lessen : PySem.W.kitOne K (.ref (He.ga K "Spend")) (.ref (He.ga K "Lessen")) = some false
  k_Spend_Out : PySem.W.kitOne K (.ref (He.ga K "Spend")) (.ref (He.ga K "Out")) = some false
  k_Promise_Give : PySem.W.kitOne K (.ref (He.ga K "Promise")) (.ref (He.ga K "Give")) = some false
  k_Promise_Hold : PySem.W.kitOne K (.ref (He.ga K "Promise")) (.ref (He.ga K "Hold")) = some false
  k_Promise_Move : PySem.W.kitOne K (.ref (He.ga K "Promise")) (.ref (He.ga K "Move")) = some false
  k_Promise_Spend : PySem.W.kitOne K (.ref (He.ga K "Promise")) (.ref (He.ga K "Spend")) = some false
  k_Promise_Promise : PySem.W.kitOne K (.ref (He.ga K "Promise")) (.ref (He.ga K "Promise")) = some true
  k_Promise_Lessen : PySem.W.kitOne K (.ref (He.ga K "Promise")) (.ref (He.ga K "Lessen")) = some false
  k_Promise_Out : PySem.W.kitOne K (.ref (He.ga K "Promise")) (.ref (He.ga K "Out")) = some false
  k_Lessen_Give : PySem.W.kitOne K (.ref (He.ga K "Lessen")) (.ref (He.ga K "Give")) = some false
  k_Lessen_Hold : PySem.W.kitOne K (.ref (He.ga K "Lessen")) (.ref (He.ga K "Hold")) = some false
  k_Lessen_Move : PySem.W.kitOne K (.ref (He.ga K "Lessen")) (.ref (He.ga K "Move")) = some false
  k_Lessen_Spend : PySem.W.kitOne K (.ref (He.ga K "Lessen")) (.ref (He.ga K "Spend")) = some false
  k_Lessen_Promise : PySem.W.kitOne K (.ref (He.ga K "Lessen")) (.ref (He.ga K "Promise")) = some false
  k_Lessen_Lessen : PySem.W.kitOne K (.ref (He.ga K "Lessen")) (.ref (He.ga K "Lessen")) = some true
  k_Lessen_Out : PySem.W.kitOne K (.ref (He.ga K "Lessen")) (.ref (He.ga K "Out")) = some false
  k_Out_Give : PySem.W.kitOne K (.ref (He.ga K "Out")) (.ref (He.ga K "Give")) = some false
  k_Out_Hold : PySem.W.kitOne K (.ref (He.ga K "Out")) (.ref (He.ga K "Hold")) = some false
  k_Out_Move : PySem.W.kitOne K (.ref (He.ga K "Out")) (.ref (He.ga K "Move")) = some false
  k_Out_Spend : PySem.W.kitOne K (.ref (He.ga K "Out")) (.ref (He.ga K "Spend")) = some false
  k_Out_Promise : PySem.W.kitOne K (.ref (He.ga K "Out")) (.ref (He.ga K "Promise")) = some false
  k_Out_Lessen : PySem.W.kitOne K (.ref (He.ga K "Out")) (.ref (He.ga K "Lessen")) = some false
  k_Out_Out : PySem.W.kitOne K (.ref (He.ga K "Out")) (.ref (He.ga K "Out")) = some true
  k_Give_Entry : PySem.W.kitOne K (.ref (He.ga K "Give")) (.ref (He.ga K "Entry")) = some true
  k_Hold_Entry : PySem.W.kitOne K (.ref (He.ga K "Hold")) (.ref (He.ga K "Entry")) = some true
  k_Move_Entry : PySem.W.kitOne K (.ref (He.ga K "Move")) (.ref (He.ga K "Entry")) = some true
  k_Spend_Entry : PySem.W.kitOne K (.ref (He.ga K "Spend")) (.ref (He.ga K "Entry")) = some true
  k_Promise_Entry : PySem.W.kitOne K (.ref (He.ga K "Promise")) (.ref (He.ga K "Entry")) = some true
  k_Lessen_Entry : PySem.W.kitOne K (.ref (He.ga K "Lessen")) (.ref (He.ga K "Entry")) = some true
  k_Out_Entry : PySem.W.kitOne K (.ref (He.ga K "Out")) (.ref (He.ga K "Entry")) = some true
  tb_SIZES : tabB K (He.ga K "SIZES") [("give", .int 4), ("hold", .int 5), ("move", .int 5), ("spend", .int 4), ("promise", .int 5), ("lessen", .int 4), ("out", .int 4)] = true
  f_is_whole : ∃ fd, FunD K "is_whole" "is_whole" (defArgs s_is_whole) (defBody s_is_whole) (defScope s_is_whole) [] [] (He.fAd K ("is_whole", none)) fd
  f_within : ∃ fd, FunD K "within" "within" (defArgs s_within) (defBody s_within) (defScope s_within) [] [] (He.fAd K ("within", none)) fd
  f_is_name : ∃ fd, FunD K "is_name" "is_name" (defArgs s_is_name) (defBody s_is_name) (defScope s_is_name) [] [] (He.fAd K ("is_name", none)) fd
  f_check : ∃ fd, FunD K "check" "check" (defArgs s_check) (defBody s_check) (defScope s_check) [] [] (He.fAd K ("check", none)) fd
  f_check_coins : ∃ fd, FunD K "check_coins" "check_coins" (defArgs s_check_coins) (defBody s_check_coins) (defScope s_check_coins) [] [] (He.fAd K ("check_coins", none)) fd
  f_Entry_told : ∃ fd, FunD K "told" "Entry.told" (defArgs s_Entry_told) (defBody s_Entry_told) (defScope s_Entry_told) [] [] (He.fAd K ("Entry", some "told")) fd
  f_Entry_named : ∃ fd, FunD K "named" "Entry.named" (defArgs s_Entry_named) (defBody s_Entry_named) (defScope s_Entry_named) [] [] (He.fAd K ("Entry", some "named")) fd
  f_Entry_lasts : ∃ fd, FunD K "lasts" "Entry.lasts" (defArgs s_Entry_lasts) (defBody s_Entry_lasts) (defScope s_Entry_lasts) [] [] (He.fAd K ("Entry", some "lasts")) fd
  f_Entry_fits : ∃ fd, FunD K "fits" "Entry.fits" (defArgs s_Entry_fits) (defBody s_Entry_fits) (defScope s_Entry_fits) [] [] (He.fAd K ("Entry", some "fits")) fd
  f_Give___init__ : ∃ fd, FunD K "__init__" "Give.__init__" (defArgs s_Give___init__) (defBody s_Give___init__) (defScope s_Give___init__) [] [] (He.fAd K ("Give", some "__init__")) fd
  f_Give_told : ∃ fd, FunD K "told" "Give.told" (defArgs s_Give_told) (defBody s_Give_told) (defScope s_Give_told) [] [] (He.fAd K ("Give", some "told")) fd
  f_Give_named : ∃ fd, FunD K "named" "Give.named" (defArgs s_Give_named) (defBody s_Give_named) (defScope s_Give_named) [] [] (He.fAd K ("Give", some "named")) fd
  f_Hold___init__ : ∃ fd, FunD K "__init__" "Hold.__init__" (defArgs s_Hold___init__) (defBody s_Hold___init__) (defScope s_Hold___init__) [] [] (He.fAd K ("Hold", some "__init__")) fd
  f_Hold_told : ∃ fd, FunD K "told" "Hold.told" (defArgs s_Hold_told) (defBody s_Hold_told) (defScope s_Hold_told) [] [] (He.fAd K ("Hold", some "told")) fd
  f_Hold_named : ∃ fd, FunD K "named" "Hold.named" (defArgs s_Hold_named) (defBody s_Hold_named) (defScope s_Hold_named) [] [] (He.fAd K ("Hold", some "named")) fd
  f_Hold_lasts : ∃ fd, FunD K "lasts" "Hold.lasts" (defArgs s_Hold_lasts) (defBody s_Hold_lasts) (defScope s_Hold_lasts) [] [] (He.fAd K ("Hold", some "lasts")) fd
  f_Move___init__ : ∃ fd, FunD K "__init__" "Move.__init__" (defArgs s_Move___init__) (defBody s_Move___init__) (defScope s_Move___init__) [] [] (He.fAd K ("Move", some "__init__")) fd
  f_Move_told : ∃ fd, FunD K "told" "Move.told" (defArgs s_Move_told) (defBody s_Move_told) (defScope s_Move_told) [] [] (He.fAd K ("Move", some "told")) fd
  f_Move_named : ∃ fd, FunD K "named" "Move.named" (defArgs s_Move_named) (defBody s_Move_named) (defScope s_Move_named) [] [] (He.fAd K ("Move", some "named")) fd
  f_Spend___init__ : ∃ fd, FunD K "__init__" "Spend.__init__" (defArgs s_Spend___init__) (defBody s_Spend___init__) (defScope s_Spend___init__) [] [] (He.fAd K ("Spend", some "__init__")) fd
  f_Spend_told : ∃ fd, FunD K "told" "Spend.told" (defArgs s_Spend_told) (defBody s_Spend_told) (defScope s_Spend_told) [] [] (He.fAd K ("Spend", some "told")) fd
  f_Spend_named : ∃ fd, FunD K "named" "Spend.named" (defArgs s_Spend_named) (defBody s_Spend_named) (defScope s_Spend_named) [] [] (He.fAd K ("Spend", some "named")) fd
  f_Promise___init__ : ∃ fd, FunD K "__init__" "Promise.__init__" (defArgs s_Promise___init__) (defBody s_Promise___init__) (defScope s_Promise___init__) [] [] (He.fAd K ("Promise", some "__init__")) fd
  f_Promise_told : ∃ fd, FunD K "told" "Promise.told" (defArgs s_Promise_told) (defBody s_Promise_told) (defScope s_Promise_told) [] [] (He.fAd K ("Promise", some "told")) fd
  f_Promise_named : ∃ fd, FunD K "named" "Promise.named" (defArgs s_Promise_named) (defBody s_Promise_named) (defScope s_Promise_named) [] [] (He.fAd K ("Promise", some "named")) fd
  f_Lessen___init__ : ∃ fd, FunD K "__init__" "Lessen.__init__" (defArgs s_Lessen___init__) (defBody s_Lessen___init__) (defScope s_Lessen___init__) [] [] (He.fAd K ("Lessen", some "__init__")) fd
  f_Lessen_told : ∃ fd, FunD K "told" "Lessen.told" (defArgs s_Lessen_told) (defBody s_Lessen_told) (defScope s_Lessen_told) [] [] (He.fAd K ("Lessen", some "told")) fd
  f_Out___init__ : ∃ fd, FunD K "__init__" "Out.__init__" (defArgs s_Out___init__) (defBody s_Out___init__) (defScope s_Out___init__) [] [] (He.fAd K ("Out", some "__init__")) fd
  f_Out_told : ∃ fd, FunD K "told" "Out.told" (defArgs s_Out_told) (defBody s_Out_told) (defScope s_Out_told) [] [] (He.fAd K ("Out", some "told")) fd
  f_read_entry : ∃ fd, FunD K "read_entry" "read_entry" (defArgs s_read_entry) (defBody s_read_entry) (defScope s_read_entry) [] [] (He.fAd K ("read_entry", none)) fd
  f_Lcell_at : ∃ fd, FunD K "_law_cell_at" "_law_cell_at" (defArgs s_Lcell_at) (defBody s_Lcell_at) (defScope s_Lcell_at) [] [] (He.fAd K ("_law_cell_at", none)) fd
  f_Lwell : ∃ fd, FunD K "_law_well" "_law_well" (defArgs s_Lwell) (defBody s_Lwell) (defScope s_Lwell) [] [] (He.fAd K ("_law_well", none)) fd
  f_Ldraw : ∃ fd, FunD K "_law_draw" "_law_draw" (defArgs s_Ldraw) (defBody s_Ldraw) (defScope s_Ldraw) [] [] (He.fAd K ("_law_draw", none)) fd
  f_Lname : ∃ fd, FunD K "_law_name" "_law_name" (defArgs s_Lname) (defBody s_Lname) (defScope s_Lname) [] [] (He.fAd K ("_law_name", none)) fd
  f_Lnames : ∃ fd, FunD K "_law_names" "_law_names" (defArgs s_Lnames) (defBody s_Lnames) (defScope s_Lnames) [] [] (He.fAd K ("_law_names", none)) fd
  f_Lcoins : ∃ fd, FunD K "_law_coins" "_law_coins" (defArgs s_Lcoins) (defBody s_Lcoins) (defScope s_Lcoins) [] [] (He.fAd K ("_law_coins", none)) fd
  f_Ltold : ∃ fd, FunD K "_law_told" "_law_told" (defArgs s_Ltold) (defBody s_Ltold) (defScope s_Ltold) [] [] (He.fAd K ("_law_told", none)) fd
  f_Lmade : ∃ fd, FunD K "_law_made" "_law_made" (defArgs s_Lmade) (defBody s_Lmade) (defScope s_Lmade) [] [] (He.fAd K ("_law_made", none)) fd
  f_Lkinds : ∃ fd, FunD K "_law_kinds" "_law_kinds" (defArgs s_Lkinds) (defBody s_Lkinds) (defScope s_Lkinds) [] [] (He.fAd K ("_law_kinds", none)) fd
  f_Lfields : ∃ fd, FunD K "_law_fields" "_law_fields" (defArgs s_Lfields) (defBody s_Lfields) (defScope s_Lfields) [] [] (He.fAd K ("_law_fields", none)) fd
  f_Lis : ∃ fd, FunD K "_law_is" "_law_is" (defArgs s_Lis) (defBody s_Lis) (defScope s_Lis) [] [] (He.fAd K ("_law_is", none)) fd
  f_law : ∃ fd, FunD K "law" "law" (defArgs s_law) (defBody s_law) (defScope s_law) [] [] (He.fAd K ("law", none)) fd
  d_SIZES : KTab K w (He.ga K "SIZES") [("give", .int 4), ("hold", .int 5), ("move", .int 5), ("spend", .int 4), ("promise", .int 5), ("lessen", .int 4), ("out", .int 4)]
theorem tx_of {P : Program} {w : World} {K : PySem.W.Frag} {mg : Str → Option Value} {base h : Heap} (X : K.In h) (G : h.Ns mainGlobals mg) (c : SaysK fxA fnA tsA w K) : Tx P w K mg base where
  g_is_whole := He.glo_ok X G (c.fact 0)
  g_within := He.glo_ok X G (c.fact 1)
  g_is_name := He.glo_ok X G (c.fact 2)
  g_check := He.glo_ok X G (c.fact 3)
  g_check_coins := He.glo_ok X G (c.fact 4)
  g_read_entry := He.glo_ok X G (c.fact 5)
  g__law_cell_at := He.glo_ok X G (c.fact 6)
  g__law_well := He.glo_ok X G (c.fact 7)
  g__law_draw := He.glo_ok X G (c.fact 8)
  g__law_name := He.glo_ok X G (c.fact 9)
  g__law_names := He.glo_ok X G (c.fact 10)
  g__law_coins := He.glo_ok X G (c.fact 11)
  g__law_told := He.glo_ok X G (c.fact 12)
  g__law_made := He.glo_ok X G (c.fact 13)
  g__law_kinds := He.glo_ok X G (c.fact 14)
  g__law_fields := He.glo_ok X G (c.fact 15)
  g__law_is := He.glo_ok X G (c.fact 16)
  g_law := He.glo_ok X G (c.fact 17)
  g_PurseError := He.glo_ok X G (c.fact 18)
  g_NoEntry := He.glo_ok X G (c.fact 19)
  g_Entry := He.glo_ok X G (c.fact 20)
  g_Give := He.glo_ok X G (c.fact 21)
  g_Hold := He.glo_ok X G (c.fact 22)
  g_Move := He.glo_ok X G (c.fact 23)
  g_Spend := He.glo_ok X G (c.fact 24)
  g_Promise := He.glo_ok X G (c.fact 25)
  g_Lessen := He.glo_ok X G (c.fact 26)
  g_Out := He.glo_ok X G (c.fact 27)
  g_LETTERS := He.str_ok X G (c.fact 28)
  g_MOST_SIGNS := He.int_ok X G (c.fact 29)
  g_MOST_COINS := He.int_ok X G (c.fact 30)
  g_LAST_UNTIL := He.int_ok X G (c.fact 31)
  g_SIZES := He.glo_ok X G (c.fact 32)
  n_len := He.free_ok X G (c.fact 33)
  n_isinstance := He.free_ok X G (c.fact 34)
  n_int := He.free_ok X G (c.fact 35)
  n_str := He.free_ok X G (c.fact 36)
  n_bool := He.free_ok X G (c.fact 37)
  n_range := He.free_ok X G (c.fact 38)
  n_tuple := He.free_ok X G (c.fact 39)
  x_PurseError := He.exc_ok (c.fact 40)
  x_NoEntry := He.exc_ok (c.fact 41)
  c_Entry := He.cls_ok (c.fact 42)
  i_Entry := insB_ok (c.fact 43)
  m_Entry_told := He.meth_ok (c.fact 44)
  m_Entry_named := He.meth_ok (c.fact 45)
  m_Entry_lasts := He.meth_ok (c.fact 46)
  m_Entry_fits := He.meth_ok (c.fact 47)
  c_Give := He.cls_ok (c.fact 48)
  i_Give := insB_ok (c.fact 49)
  a_Give_head := He.noat_ok (c.fact 50)
  a_Give_coins := He.noat_ok (c.fact 51)
  a_Give_note := He.noat_ok (c.fact 52)
  a_Give_until := He.noat_ok (c.fact 53)
  a_Give_other := He.noat_ok (c.fact 54)
  a_Give_word := He.noat_ok (c.fact 55)
  mk_Give := He.mkr_ok (c.fact 56)
  m_Give_told := He.meth_ok (c.fact 57)
  m_Give_named := He.meth_ok (c.fact 58)
  m_Give_lasts := He.meth_ok (c.fact 59)
  m_Give_fits := He.meth_ok (c.fact 60)
  c_Hold := He.cls_ok (c.fact 61)
  i_Hold := insB_ok (c.fact 62)
  a_Hold_head := He.noat_ok (c.fact 63)
  a_Hold_coins := He.noat_ok (c.fact 64)
  a_Hold_note := He.noat_ok (c.fact 65)
  a_Hold_until := He.noat_ok (c.fact 66)
  a_Hold_other := He.noat_ok (c.fact 67)
  a_Hold_word := He.noat_ok (c.fact 68)
  mk_Hold := He.mkr_ok (c.fact 69)
  m_Hold_told := He.meth_ok (c.fact 70)
  m_Hold_named := He.meth_ok (c.fact 71)
  m_Hold_lasts := He.meth_ok (c.fact 72)
  m_Hold_fits := He.meth_ok (c.fact 73)
  c_Move := He.cls_ok (c.fact 74)
  i_Move := insB_ok (c.fact 75)
  a_Move_head := He.noat_ok (c.fact 76)
  a_Move_coins := He.noat_ok (c.fact 77)
  a_Move_note := He.noat_ok (c.fact 78)
  a_Move_until := He.noat_ok (c.fact 79)
  a_Move_other := He.noat_ok (c.fact 80)
  a_Move_word := He.noat_ok (c.fact 81)
  mk_Move := He.mkr_ok (c.fact 82)
  m_Move_told := He.meth_ok (c.fact 83)
  m_Move_named := He.meth_ok (c.fact 84)
  m_Move_lasts := He.meth_ok (c.fact 85)
  m_Move_fits := He.meth_ok (c.fact 86)
  c_Spend := He.cls_ok (c.fact 87)
  i_Spend := insB_ok (c.fact 88)
  a_Spend_head := He.noat_ok (c.fact 89)
  a_Spend_coins := He.noat_ok (c.fact 90)
  a_Spend_note := He.noat_ok (c.fact 91)
  a_Spend_until := He.noat_ok (c.fact 92)
  a_Spend_other := He.noat_ok (c.fact 93)
  a_Spend_word := He.noat_ok (c.fact 94)
  mk_Spend := He.mkr_ok (c.fact 95)
  m_Spend_told := He.meth_ok (c.fact 96)
  m_Spend_named := He.meth_ok (c.fact 97)
  m_Spend_lasts := He.meth_ok (c.fact 98)
  m_Spend_fits := He.meth_ok (c.fact 99)
  c_Promise := He.cls_ok (c.fact 100)
  i_Promise := insB_ok (c.fact 101)
  a_Promise_head := He.noat_ok (c.fact 102)
  a_Promise_coins := He.noat_ok (c.fact 103)
  a_Promise_note := He.noat_ok (c.fact 104)
  a_Promise_until := He.noat_ok (c.fact 105)
  a_Promise_other := He.noat_ok (c.fact 106)
  a_Promise_word := He.noat_ok (c.fact 107)
  mk_Promise := He.mkr_ok (c.fact 108)
  m_Promise_told := He.meth_ok (c.fact 109)
  m_Promise_named := He.meth_ok (c.fact 110)
  m_Promise_lasts := He.meth_ok (c.fact 111)
  m_Promise_fits := He.meth_ok (c.fact 112)
  c_Lessen := He.cls_ok (c.fact 113)
  i_Lessen := insB_ok (c.fact 114)
  a_Lessen_head := He.noat_ok (c.fact 115)
  a_Lessen_coins := He.noat_ok (c.fact 116)
  a_Lessen_note := He.noat_ok (c.fact 117)
  a_Lessen_until := He.noat_ok (c.fact 118)
  a_Lessen_other := He.noat_ok (c.fact 119)
  a_Lessen_word := He.noat_ok (c.fact 120)
  mk_Lessen := He.mkr_ok (c.fact 121)
  m_Lessen_told := He.meth_ok (c.fact 122)
  m_Lessen_named := He.meth_ok (c.fact 123)
  m_Lessen_lasts := He.meth_ok (c.fact 124)
  m_Lessen_fits := He.meth_ok (c.fact 125)
  c_Out := He.cls_ok (c.fact 126)
  i_Out := insB_ok (c.fact 127)
  a_Out_head := He.noat_ok (c.fact 128)
  a_Out_coins := He.noat_ok (c.fact 129)
  a_Out_note := He.noat_ok (c.fact 130)
  a_Out_until := He.noat_ok (c.fact 131)
  a_Out_other := He.noat_ok (c.fact 132)
  a_Out_word := He.noat_ok (c.fact 133)
  mk_Out := He.mkr_ok (c.fact 134)
  m_Out_told := He.meth_ok (c.fact 135)
  m_Out_named := He.meth_ok (c.fact 136)
  m_Out_lasts := He.meth_ok (c.fact 137)
  m_Out_fits := He.meth_ok (c.fact 138)
  k_Give_Give := of_decide_eq_true (c.fact 139)
  k_Give_Hold := of_decide_eq_true (c.fact 140)
  k_Give_Move := of_decide_eq_true (c.fact 141)
  k_Give_Spend := of_decide_eq_true (c.fact 142)
  k_Give_Promise := of_decide_eq_true (c.fact 143)
  k_Give_Lessen := of_decide_eq_true (c.fact 144)
  k_Give_Out := of_decide_eq_true (c.fact 145)
  k_Hold_Give := of_decide_eq_true (c.fact 146)
  k_Hold_Hold := of_decide_eq_true (c.fact 147)
  k_Hold_Move := of_decide_eq_true (c.fact 148)
  k_Hold_Spend := of_decide_eq_true (c.fact 149)
  k_Hold_Promise := of_decide_eq_true (c.fact 150)
  k_Hold_Lessen := of_decide_eq_true (c.fact 151)
  k_Hold_Out := of_decide_eq_true (c.fact 152)
  k_Move_Give := of_decide_eq_true (c.fact 153)
  k_Move_Hold := of_decide_eq_true (c.fact 154)
  k_Move_Move := of_decide_eq_true (c.fact 155)
  k_Move_Spend := of_decide_eq_true (c.fact 156)
  k_Move_Promise := of_decide_eq_true (c.fact 157)
  k_Move_Lessen := of_decide_eq_true (c.fact 158)
  k_Move_Out := of_decide_eq_true (c.fact 159)
  k_Spend_Give := of_decide_eq_true (c.fact 160)
  k_Spend_Hold := of_decide_eq_true (c.fact 161)
  k_Spend_Move := of_decide_eq_true (c.fact 162)
  k_Spend_Spend := of_decide_eq_true (c.fact 163)
  k_Spend_Promise := of_decide_eq_true (c.fact 164)
  k_Spend_Lessen := of_decide_eq_true (c.fact 165)
  k_Spend_Out := of_decide_eq_true (c.fact 166)
  k_Promise_Give := of_decide_eq_true (c.fact 167)
  k_Promise_Hold := of_decide_eq_true (c.fact 168)
  k_Promise_Move := of_decide_eq_true (c.fact 169)
  k_Promise_Spend := of_decide_eq_true (c.fact 170)
  k_Promise_Promise := of_decide_eq_true (c.fact 171)
  k_Promise_Lessen := of_decide_eq_true (c.fact 172)
  k_Promise_Out := of_decide_eq_true (c.fact 173)
  k_Lessen_Give := of_decide_eq_true (c.fact 174)
  k_Lessen_Hold := of_decide_eq_true (c.fact 175)
  k_Lessen_Move := of_decide_eq_true (c.fact 176)
  k_Lessen_Spend := of_decide_eq_true (c.fact 177)
  k_Lessen_Promise := of_decide_eq_true (c.fact 178)
  k_Lessen_Lessen := of_decide_eq_true (c.fact 179)
  k_Lessen_Out := of_decide_eq_true (c.fact 180)
  k_Out_Give := of_decide_eq_true (c.fact 181)
  k_Out_Hold := of_decide_eq_true (c.fact 182)
  k_Out_Move := of_decide_eq_true (c.fact 183)
  k_Out_Spend := of_decide_eq_true (c.fact 184)
  k_Out_Promise := of_decide_eq_true (c.fact 185)
  k_Out_Lessen := of_decide_eq_true (c.fact 186)
  k_Out_Out := of_decide_eq_true (c.fact 187)
  k_Give_Entry := of_decide_eq_true (c.fact 188)
  k_Hold_Entry := of_decide_eq_true (c.fact 189)
  k_Move_Entry := of_decide_eq_true (c.fact 190)
  k_Spend_Entry := of_decide_eq_true (c.fact 191)
  k_Promise_Entry := of_decide_eq_true (c.fact 192)
  k_Lessen_Entry := of_decide_eq_true (c.fact 193)
  k_Out_Entry := of_decide_eq_true (c.fact 194)
  tb_SIZES := c.fact 195
  f_is_whole := c.def_ 0 (d := dd_is_whole) rfl
  f_within := c.def_ 1 (d := dd_within) rfl
  f_is_name := c.def_ 2 (d := dd_is_name) rfl
  f_check := c.def_ 3 (d := dd_check) rfl
  f_check_coins := c.def_ 4 (d := dd_check_coins) rfl
  f_Entry_told := c.def_ 5 (d := dd_Entry_told) rfl
  f_Entry_named := c.def_ 6 (d := dd_Entry_named) rfl
  f_Entry_lasts := c.def_ 7 (d := dd_Entry_lasts) rfl
  f_Entry_fits := c.def_ 8 (d := dd_Entry_fits) rfl
  f_Give___init__ := c.def_ 9 (d := dd_Give___init__) rfl
  f_Give_told := c.def_ 10 (d := dd_Give_told) rfl
  f_Give_named := c.def_ 11 (d := dd_Give_named) rfl
  f_Hold___init__ := c.def_ 12 (d := dd_Hold___init__) rfl
  f_Hold_told := c.def_ 13 (d := dd_Hold_told) rfl
  f_Hold_named := c.def_ 14 (d := dd_Hold_named) rfl
  f_Hold_lasts := c.def_ 15 (d := dd_Hold_lasts) rfl
  f_Move___init__ := c.def_ 16 (d := dd_Move___init__) rfl
  f_Move_told := c.def_ 17 (d := dd_Move_told) rfl
  f_Move_named := c.def_ 18 (d := dd_Move_named) rfl
  f_Spend___init__ := c.def_ 19 (d := dd_Spend___init__) rfl
  f_Spend_told := c.def_ 20 (d := dd_Spend_told) rfl
  f_Spend_named := c.def_ 21 (d := dd_Spend_named) rfl
  f_Promise___init__ := c.def_ 22 (d := dd_Promise___init__) rfl
  f_Promise_told := c.def_ 23 (d := dd_Promise_told) rfl
  f_Promise_named := c.def_ 24 (d := dd_Promise_named) rfl
  f_Lessen___init__ := c.def_ 25 (d := dd_Lessen___init__) rfl
  f_Lessen_told := c.def_ 26 (d := dd_Lessen_told) rfl
  f_Out___init__ := c.def_ 27 (d := dd_Out___init__) rfl
  f_Out_told := c.def_ 28 (d := dd_Out_told) rfl
  f_read_entry := c.def_ 29 (d := dd_read_entry) rfl
  f_Lcell_at := c.def_ 30 (d := dd_Lcell_at) rfl
  f_Lwell := c.def_ 31 (d := dd_Lwell) rfl
  f_Ldraw := c.def_ 32 (d := dd_Ldraw) rfl
  f_Lname := c.def_ 33 (d := dd_Lname) rfl
  f_Lnames := c.def_ 34 (d := dd_Lnames) rfl
  f_Lcoins := c.def_ 35 (d := dd_Lcoins) rfl
  f_Ltold := c.def_ 36 (d := dd_Ltold) rfl
  f_Lmade := c.def_ 37 (d := dd_Lmade) rfl
  f_Lkinds := c.def_ 38 (d := dd_Lkinds) rfl
  f_Lfields := c.def_ 39 (d := dd_Lfields) rfl
  f_Lis := c.def_ 40 (d := dd_Lis) rfl
  f_law := c.def_ 41 (d := dd_law) rfl
  d_SIZES := tabB_ok (c.fact 195) (c.tab 0)
end Kn

set_option Elab.async false
set_option linter.all false
set_option maxRecDepth 100000
set_option maxHeartbeats 0
namespace Kn
open PySem PySem.Spec PyProof.Rows L2
def sp_law (K : PySem.W.Frag) : Sp := fun vs H Q _ => ∃ (a : Addr) (ns : List Int), vs = [.ref a] ∧ SqL K H a (ns.map V.int) ∧ ns.length ≤ 63 ∧ (∀ z ∈ ns, Builtin.Int.intBits z ≤ 1048576) ∧ ∀ H', Q (.bl true) H'
abbrev Rw : PySem.W.OpenRow := PySem.W.OpenLaw.row PySem.Challenge.rw_knotpurse_k04_entries_told
def looseN : List PySem.Str := (["PurseError", "NoEntry", "LETTERS", "MOST_SIGNS", "is_whole", "within", "is_name", "MOST_COINS", "LAST_UNTIL", "SIZES", "check", "check_coins", "Entry", "Give", "Hold", "Move", "Spend", "Promise", "Lessen", "Out", "read_entry", "_law_cell_at", "_law_well", "_law_draw", "_law_name", "_law_names", "_law_coins", "_law_told", "_law_made", "_law_kinds"] : List PySem.Str) ++ (["_law_fields", "_law_is"] : List PySem.Str)
abbrev hkA : PySem.W.Hook := hookK 6 fxA fnA tsA
def obA (s : PySem.W.SharedT) : AlK := obsKG 6 fxA fnA tsA (HandSHeadRun.getT s)
theorem obA_eq (s : PySem.W.SharedT) : obA s = hkA.obs s.abs := obsKG_eq (HandSHeadRun.getT_eq s)
theorem run_false (w : World) : HandSHeadRun.RunEq Rw (PySem.W.view Rw.prog [36]) hkA obA 6000 looseN (w.withFollow "special-get-raises" false) := by
  intro os
  kernel_rfl
theorem run_true (w : World) : HandSHeadRun.RunEq Rw (PySem.W.view Rw.prog [36]) hkA obA 6000 looseN (w.withFollow "special-get-raises" true) := by
  intro os
  kernel_rfl
theorem runA (w : World) : HandSHeadRun.RunEq Rw (PySem.W.view Rw.prog [36]) hkA obA 6000 looseN w := PySem.W.byRow2 "special-get-raises" run_false run_true w
theorem closeA (F : ∀ (w : World) (K : PySem.W.Frag) (mg : Str → Option Value) (base : Heap), Tx (PySem.Challenge.rw_knotpurse_k04_entries_told).prog w K mg base → DefOk (PySem.Challenge.rw_knotpurse_k04_entries_told).prog w K mg base 7 ("law", none) ["_law_script"] (sp_law K)) : PySem.Challenge.rw_knotpurse_k04_entries_told.Holds := by
  w_on; o_law
  refine HandSHeadRun.head_any (r := Rw) (q := PySem.W.view Rw.prog [36]) (H := hkA) (ob := obA) (M := 6000) (loose := looseN) (d := HandSHeadRun.topDef Rw.prog 36) (kwd := []) obA_eq
    (by kernel_rfl) (fun s => by kernel_rfl) runA (by kernel_rfl) (by kernel_rfl) (by kernel_rfl) (by rfl) (by first | assumption | decide +kernel) (by decide +kernel) ⟨rfl, rfl, rfl, rfl, rfl, by decide +kernel⟩ ?hw ?hc
  case hw => w_witness2
  case hc =>
    refine walkK (l := PySem.Challenge.rw_knotpurse_k04_entries_told) (n := 63) (k := 7) (x := "_law_script") rfl (by decide) (by kernel_rfl) ⟨rfl, by decide, by decide⟩ ?_
    intro w mg fa h Y G hmg0
    obtain ⟨K, KX, c⟩ := Y
    have hmg : mg ("law" : PySem.Str) = some (.ref fa) := by
      have e : (HandSHeadRun.topDef Rw.prog 36).name = ("law" : PySem.Str) := by kernel_rfl
      rw [← e]
      exact hmg0
    have T : ∀ base, Tx (PySem.Challenge.rw_knotpurse_k04_entries_told).prog w K mg base := fun base => tx_of KX G c
    have e := hmg.symm.trans (T default).g_law
    cases e
    obtain ⟨fd, F0⟩ := (T default).f_law
    have b := FunD.bindsA (ps := ["_law_script"]) F0 fun _ _ _ _ _ _ us hl => match us, hl with | [_], _ => rfl
    refine ⟨K, fd, sp_law K, KX, fun s v => b s [v] rfl, fun H a ns hl hb _ hS => ⟨a, ns, rfl, hS, hl, hb, fun _ => rfl⟩, fun base _ _ => ?_⟩
    obtain ⟨⟨fd2, F2, _, oc, od, osl, lk⟩, _⟩ := F w K mg base (T base)
    obtain ⟨_, _, _, _, _, _, _, _, _, _, _, lk2, _⟩ := F0.ex
    rw [lk2] at lk
    injection lk with e2
    injection e2 with _ _ e3 _
    injection e3 with e4
    rw [e4]
    exact F2
end Kn

set_option Elab.async false
set_option linter.all false
set_option maxRecDepth 100000
set_option maxHeartbeats 4000000
namespace Kn
open PySem PySem.Spec PyProof.Rows L2
local macro_rules | `(tactic| walk_at "go1") => `(tactic| first
  | with_reducible refine s_seq ?_
  | with_reducible refine s_var rfl ?_
  | with_reducible refine s_c ?_
  | with_reducible refine s_cons ?_
  | with_reducible refine s_nil ?_
  | with_reducible refine s_asg ?_
  | with_reducible refine s_name ?_
  | with_reducible refine s_op ?_
  | with_reducible refine s_call ?_
  | with_reducible refine s_cb ?_
  | with_reducible refine s_ret ?_
  | with_reducible refine s_drop ?_
  | with_reducible refine s_next ?_
  | with_reducible refine s_ifs ?_
  | with_reducible refine s_test ?_
  | with_reducible refine s_tB ?_
  | with_reducible refine s_blP ?_
  | with_reducible refine s_intP ?_
  | with_reducible refine iteT ?_
  | with_reducible refine iteF ?_
  | with_reducible refine ite_not ?_
  | with_reducible refine s_and ?_
  | with_reducible refine s_or ?_
  | with_reducible refine s_not ?_
  | with_reducible refine s_andV ?_
  | with_reducible refine s_orV ?_
  | with_reducible refine s_notV ?_
  | with_reducible refine s_chain ?_
  | with_reducible refine s_sub ?_
  | with_reducible refine s_bm ?_
  | with_reducible refine s_sl ?_
  | with_reducible refine s_part ?_
  | with_reducible refine s_nop ?_
  | with_reducible refine s_make ?_
  | with_reducible refine s_un ?_
  | with_reducible refine s_ifE ?_
  | with_reducible refine s_gcons ?_
  | with_reducible refine s_gnil ?_
  | with_reducible refine s_meth ?_
  | with_reducible refine s_rev ?_
  | with_reducible refine s_lc ?_
  | with_reducible refine s_rng1 ?_
  | with_reducible refine s_ilst ?_
  | with_reducible refine s_istr ?_
  | with_reducible refine s_for ?_
  | with_reducible refine s_yes ?_
  | with_reducible refine s_wipe rfl ?_
  | with_reducible refine s_kget ?_
  | with_reducible refine s_strP ?_
  | with_reducible refine s_fldS ?_
  | with_reducible refine s_fld ?_
  | with_reducible refine s_tup ?_
  | with_reducible refine s_lst ?_
  | with_reducible refine v_addI ?_
  | with_reducible refine v_subI ?_
  | with_reducible refine v_lt ?_
  | with_reducible refine v_le ?_
  | with_reducible refine v_gt ?_
  | with_reducible refine v_ge ?_
  | with_reducible refine v_eqI ?_
  | with_reducible refine v_eqS ?_
  | with_reducible refine v_neS ?_
  | with_reducible refine v_neI ?_)
local macro_rules | `(tactic| walk_at "go") => `(tactic| repeat walk_at "go1")

section
variable {w : World} {P : Program} {mg : Str → Option Value} {K : PySem.W.Frag} {base : Heap}
@[reducible] def wholeB : V → Bool
  | .int _ => true
  | _ => false
def withinB (x : V) (lo hi : Int) : Bool := match x with
  | .int i => decide (lo ≤ i) && decide (i ≤ hi)
  | _ => false
def LET : Str := "abcdefghijklmnopqrstuvwxyz"
def nameB : V → Bool
  | .str s => !decide (s = "") && (!decide ((8 : Int) < s.length) && decide (Txt.stripChars s LET = ""))
  | _ => false
def sp_is_whole (K : PySem.W.Frag) : Sp := fun vs H Q _ => ∃ x, vs = [x] ∧ Knd K H x ∧ Q (.bl (wholeB x)) H
def sp_within (K : PySem.W.Frag) : Sp := fun vs H Q _ => ∃ x lo hi, vs = [x, .int lo, .int hi] ∧ Knd K H x ∧ Q (.bl (withinB x lo hi)) H
def sp_is_name (K : PySem.W.Frag) : Sp := fun vs H Q _ => ∃ x, vs = [x] ∧ Knd K H x ∧ Q (.bl (nameB x)) H
def sp_check (K : PySem.W.Frag) : Sp := fun vs H Q E => ∃ b, vs = [.bl b] ∧ (b = true → Q .non H) ∧ (b = false → ∀ H', Same H H' → E (.ref (He.ga K "NoEntry")) none H')
def coinsB (c n : V) : Bool := withinB c 1 1000000000000 && strB n && (decide (n = .str "") || nameB n)
def sp_check_coins (K : PySem.W.Frag) : Sp := fun vs H Q E => ∃ c n, vs = [c, n] ∧ Knd K H c ∧ Knd K H n ∧ (coinsB c n = true → Q .non H) ∧ (coinsB c n = false → ∀ H', Same H H' → E (.ref (He.ga K "NoEntry")) none H')

theorem ok_is_whole (T : Tx P w K mg base) : DefOk P w K mg base 1 ("is_whole", none) ["thing"] (sp_is_whole K) := by
  refine mkOk T.f_is_whole sc_is_whole (fun vs H Q E h => ?_) (fun _ _ _ _ _ _ us hl => match us, hl with | [_], _ => rfl) (fun cdv A outer s H vs Q E hr h => ?_)
  · obtain ⟨x, rfl, hk, k⟩ := h
    rfl
  · obtain ⟨x, rfl, hk, k⟩ := h
    refine ⟨_, (pss_one (ps_ret (pe_and (pe_callB (isiK K rfl) rfl T.n_isinstance (by decide +kernel) (pa_cons (pv 0) (pa_cons (kbT (n := "int") T.n_int (by decide +kernel)) pa_nil))) (pe_one (pe_not (pe_callB (isiK K rfl) rfl T.n_isinstance (by decide +kernel) (pa_cons (pv 0) (pa_cons (kbT (n := "bool") T.n_bool (by decide +kernel)) pa_nil)))))))), ?_⟩
    obtain ⟨⟨t, ht, _, h2, h3⟩, _⟩ := hk
    walk_at "go"
    refine v_isi ht h2 ?_
    walk_at "go"
    cases x with
    | int i =>
      walk_at "go"
      refine v_isi ht h3 ?_
      walk_at "go"
      exact k
    | bl i =>
      walk_at "go"
      refine v_isi ht h3 ?_
      walk_at "go"
      exact k
    | _ =>
      walk_at "go"
      exact k

theorem ok_within (T : Tx P w K mg base) : DefOk P w K mg base 2 ("within", none) ["thing", "least", "most"] (sp_within K) := by
  refine mkOk T.f_within sc_within (fun vs H Q E h => ?_) (fun _ _ _ _ _ _ us hl => match us, hl with | [_, _, _], _ => rfl) (fun cdv A outer s H vs Q E hr h => ?_)
  · obtain ⟨x, lo, hi, rfl, hk, k⟩ := h
    rfl
  · obtain ⟨x, lo, hi, rfl, hk, k⟩ := h
    refine ⟨_, (pss_one (ps_ret (pe_and (kc (ok_is_whole (K := K) T) T.g_is_whole (hr.mono (by decide)) pB (pa_cons (pv 0) pa_nil)) (pe_one (pe_chain kLe kLe (pv 1) (pv 0) (pv 2)))))), ?_⟩
    walk_at "go"
    refine ⟨x, rfl, hk, ?_⟩
    walk_at "go"
    cases x with
    | int i =>
      walk_at "go"
      by_cases h : lo ≤ i
      · rw [decide_eq_true h]
        walk_at "go"
        simpa [withinB, h] using k
      · rw [decide_eq_false h]
        walk_at "go"
        simpa [withinB, h] using k
    | _ =>
      walk_at "go"
      exact k

theorem ok_is_name (T : Tx P w K mg base) : DefOk P w K mg base 1 ("is_name", none) ["thing"] (sp_is_name K) := by
  refine mkOk T.f_is_name sc_is_name (fun vs H Q E h => ?_) (fun _ _ _ _ _ _ us hl => match us, hl with | [_], _ => rfl) (fun cdv A outer s H vs Q E hr h => ?_)
  · obtain ⟨x, rfl, hk, k⟩ := h
    rfl
  · obtain ⟨x, rfl, hk, k⟩ := h
    refine ⟨_, (pss_cons (ps_if (PW.pt (pw_or (pt_not (pt_val (pe_callB (isiK K rfl) rfl T.n_isinstance (by decide +kernel) (pa_cons (pv 0) (pa_cons (kbT (n := "str") T.n_str (by decide +kernel)) pa_nil))))) (pw_or (pt_cmpR (eqK K rfl hr) (pv 0) pe_str (nomark _)) (pw_or1 (pt_cmpR kGt (pe_callB (lenK K rfl) rfl T.n_len (by decide +kernel) (pa_cons (pv 0) pa_nil)) (kgI T.g_MOST_SIGNS) (nomark _)))))) (pss_one (ps_ret pe_bl)) pss_nil)
      (pss_one (ps_ret (pe_cmpR (eqK K rfl hr) (bmK K rfl PySem.F.plainAttrs_str PySem.F.slot_str_strip PySem.F.type_str_strip kStrip (pv 0) (pa_cons (kgS T.g_LETTERS) pa_nil)) pe_str (nomark _))))), ?_⟩
    obtain ⟨⟨t, ht, h1, _, _⟩, hl⟩ := hk
    walk_at "go"
    refine v_isi ht h1 ?_
    walk_at "go"
    cases x with
    | str z =>
      have hz := hl z rfl
      walk_at "go"
      by_cases e : z = ""
      · rw [decide_eq_true e]
        walk_at "go"
        simpa [nameB, e] using k
      · rw [decide_eq_false e]
        walk_at "go"
        refine v_lenS (sz hz) ?_
        walk_at "go"
        by_cases e2 : (8 : Int) < (z.length : Int)
        · rw [decide_eq_true e2]
          walk_at "go"
          simpa [nameB, e, e2] using k
        · rw [decide_eq_false e2]
          walk_at "go"
          refine ⟨rfl, ?_⟩
          walk_at "go"
          refine v_strip (sz hz) ?_
          walk_at "go"
          have e3 : nameB (.str z) = decide (Txt.stripChars z LET = "") := by
            show (!decide (z = "") && (!decide ((8 : Int) < z.length) && decide (Txt.stripChars z LET = ""))) = _
            rw [decide_eq_false e, decide_eq_false e2]
            rfl
          rw [e3] at k
          exact k
    | _ =>
      walk_at "go"
      exact k

theorem ok_check (T : Tx P w K mg base) : DefOk P w K mg base 1 ("check", none) ["good"] (sp_check K) := by
  refine mkOk T.f_check sc_check (fun vs H Q E h => ?_) (fun _ _ _ _ _ _ us hl => match us, hl with | [_], _ => rfl) (fun cdv A outer s H vs Q E hr h => ?_)
  · obtain ⟨b, rfl, k1, k2⟩ := h
    rfl
  · obtain ⟨b, rfl, k1, k2⟩ := h
    refine ⟨_, (pss_one (ps_if (pt_not (pt_val (pv 0))) (pss_one (ps_raise rfl (takes_of rfl rfl rfl rfl) (pmk_own PySem.F.excBase_ValueError T.x_NoEntry.1 T.g_NoEntry T.x_NoEntry.2.1 (raises_own T.x_NoEntry.2.2.1 T.x_NoEntry.2.2.2) (by exact rfl)))) pss_nil)), ?_⟩
    walk_at "go"
    cases b with
    | true =>
      walk_at "go"
      exact k1 rfl
    | false =>
      walk_at "go"
      exact k2 rfl _ (Same.refl _)

theorem ok_check_coins (T : Tx P w K mg base) : DefOk P w K mg base 3 ("check_coins", none) ["coins", "note"] (sp_check_coins K) := by
  refine mkOk T.f_check_coins sc_check_coins (fun vs H Q E h => ?_) (fun _ _ _ _ _ _ us hl => match us, hl with | [_, _], _ => rfl) (fun cdv A outer s H vs Q E hr h => ?_)
  · obtain ⟨c, n, rfl, hc, hn, k1, k2⟩ := h
    rfl
  · obtain ⟨c, n, rfl, hc, hn, k1, k2⟩ := h
    refine ⟨_, (pss_cons (ps_expr (kc (ok_check (K := K) T) T.g_check (hr.mono (by decide)) pB (pa_cons (pe_and (kc (ok_within (K := K) T) T.g_within (hr.mono (by decide)) pB (pa_cons (pv 0) (pa_cons pe_int (pa_cons (kgI T.g_MOST_COINS) pa_nil)))) (pe_one (pe_callB (isiK K rfl) rfl T.n_isinstance (by decide +kernel) (pa_cons (pv 1) (pa_cons (kbT (n := "str") T.n_str (by decide +kernel)) pa_nil))))) pa_nil)))
      (pss_one (ps_expr (kc (ok_check (K := K) T) T.g_check (hr.mono (by decide)) pB (pa_cons (L2.pe_or (pe_cmpR (eqK K rfl hr) (pv 1) pe_str (nomark _)) (pe_one (kc (ok_is_name (K := K) T) T.g_is_name (hr.mono (by decide)) pB (pa_cons (pv 1) pa_nil)))) pa_nil))))), ?_⟩
    obtain ⟨⟨t, ht, h1, _, _⟩, hl⟩ := id hn
    walk_at "go"
    refine ⟨c, 1, 1000000000000, rfl, hc, ?_⟩
    walk_at "go"
    cases e : withinB c 1 1000000000000 with
    | false =>
      walk_at "go"
      refine ⟨false, rfl, (fun z => nomatch z), fun _ H' s' => k2 (by simp [coinsB, e]) H' s'⟩
    | true =>
      walk_at "go"
      refine v_isi ht h1 ?_
      refine ⟨strB n, rfl, fun hb => ?_, fun hb H' s' => k2 (by simp [coinsB, hb]) H' s'⟩
      walk_at "go"
      cases n with
      | str z =>
        walk_at "go"
        by_cases e2 : z = ""
        · rw [decide_eq_true e2]
          walk_at "go"
          refine ⟨true, rfl, fun _ => k1 ?_, (fun z => nomatch z)⟩
          simp [coinsB, e, e2, strB]
        · rw [decide_eq_false e2]
          walk_at "go"
          refine ⟨_, rfl, hn, ?_⟩
          refine ⟨_, rfl, fun hb2 => k1 ?_, fun hb2 H' s' => k2 ?_ H' s'⟩
          · simp [coinsB, e, e2, strB, hb2]
          · simp [coinsB, e, e2, strB, hb2]
      | _ => cases hb

def okGiveB (h c n : V) : Bool := nameB h && coinsB c n
def fsGive (h c n : V) : List (Str × V) := [("head", h), ("coins", c), ("note", n)]
def sp_Give___init__ (K : PySem.W.Frag) : Sp := fun vs H Q E => ∃ p dx h c n, vs = [.ref p, h, c, n] ∧ H p = some (.ins (He.ga K "Give") dx []) ∧ Knd K H h ∧ Knd K H c ∧ Knd K H n ∧
  (okGiveB h c n = true → Q .non (upd H p (.ins (He.ga K "Give") dx (fsGive h c n)))) ∧ (okGiveB h c n = false → ∀ H', Same H H' → E (.ref (He.ga K "NoEntry")) none H')
def sp_Give_told (K : PySem.W.Frag) : Sp := fun vs H Q _ => ∃ p dx h c n, vs = [.ref p] ∧ H p = some (.ins (He.ga K "Give") dx (fsGive h c n)) ∧ ∀ t, H t = none → Q (.ref t) (upd H t (.tup [.str "give", h, c, n]))

theorem nameB_str {x : V} (h : nameB x = true) : ∃ s, x = .str s := by
  cases x with
  | str s => exact ⟨s, rfl⟩
  | _ => cases h

theorem ok_Give___init__ (T : Tx P w K mg base) : DefOk P w K mg base 4 ("Give", some "__init__") ["self", "head", "coins", "note"] (sp_Give___init__ K) := by
  refine mkOk T.f_Give___init__ sc_Give___init__ (fun vs H Q E h => ?_) (fun _ _ _ _ _ _ us hl => match us, hl with | [_, _, _, _], _ => rfl) (fun cdv A outer s H vs Q E hr h => ?_)
  · obtain ⟨p, dx, h, c, n, rfl, hp, yh, yc, yn, k1, k2⟩ := h
    rfl
  · obtain ⟨p, dx, h, c, n, rfl, hp, yh, yc, yn, k1, k2⟩ := h
    refine ⟨_, (pss_cons (ps_expr (kc (ok_check (K := K) T) T.g_check (hr.mono (by decide)) pB (pa_cons (kc (ok_is_name (K := K) T) T.g_is_name (hr.mono (by decide)) pB (pa_cons (pv 1) pa_nil)) pa_nil)))
      (pss_cons (ps_expr (kc (ok_check_coins (K := K) T) T.g_check_coins (hr.mono (by decide)) pB (pa_cons (pv 2) (pa_cons (pv 3) pa_nil))))
      (pss_cons (psfK K rfl (pv 0) (pv 1) rfl)
      (pss_cons (psfK K rfl (pv 0) (pv 2) rfl)
      (pss_one (psfK K rfl (pv 0) (pv 3) rfl)))))), ?_⟩
    walk_at "go"
    refine ⟨h, rfl, yh, ?_⟩
    cases e : nameB h with
    | false =>
      refine ⟨false, rfl, (fun z => nomatch z), fun _ H' s' => k2 (by simp [okGiveB, e]) H' s'⟩
    | true =>
      refine ⟨true, rfl, fun _ => ?_, (fun z => nomatch z)⟩
      walk_at "go"
      refine ⟨c, n, rfl, yc, yn, fun hc2 => ?_, fun hc2 H' s' => k2 (by simp [okGiveB, e, hc2]) H' s'⟩
      walk_at "go"
      refine v_fldS (fs := []) (by first | exact hp | exact upd_same) T.c_Give T.a_Give_head (by show 0 < 1000; decide) (by rfl) ?_
      skip
      walk_at "go"
      refine v_fldS (fs := [("head", h)]) (by first | exact hp | exact upd_same) T.c_Give T.a_Give_coins (by show 1 < 1000; decide) (by rfl) ?_
      rw [upd_upd]
      walk_at "go"
      refine v_fldS (fs := [("head", h), ("coins", c)]) (by first | exact hp | exact upd_same) T.c_Give T.a_Give_note (by show 2 < 1000; decide) (by rfl) ?_
      rw [upd_upd]
      walk_at "go"
      exact k1 (by simp [okGiveB, e, hc2])

theorem ok_Give_told (T : Tx P w K mg base) : DefOk P w K mg base 1 ("Give", some "told") ["self"] (sp_Give_told K) := by
  refine mkOk T.f_Give_told sc_Give_told (fun vs H Q E h => ?_) (fun _ _ _ _ _ _ us hl => match us, hl with | [_], _ => rfl) (fun cdv A outer s H vs Q E hr h => ?_)
  · obtain ⟨p, dx, h, c, n, rfl, hp, k⟩ := h
    rfl
  · obtain ⟨p, dx, h, c, n, rfl, hp, k⟩ := h
    refine ⟨_, (pss_one (ps_ret (pe_tup (pa_cons pe_str (pa_cons (fldK K rfl (pv 0) rfl) (pa_cons (fldK K rfl (pv 0) rfl) (pa_cons (fldK K rfl (pv 0) rfl) pa_nil))))))), ?_⟩
    walk_at "go"
    refine v_fld hp T.c_Give T.a_Give_head (by rfl) ?_
    walk_at "go"
    refine v_fld hp T.c_Give T.a_Give_coins (by rfl) ?_
    walk_at "go"
    refine v_fld hp T.c_Give T.a_Give_note (by rfl) ?_
    walk_at "go"
    exact ⟨by show 4 ≤ sizeLine; decide, fun t ht => k t ht⟩

def okHoldB (h c u n : V) : Bool := (nameB h && withinB u 2 31) && coinsB c n
def fsHold (h c u n : V) : List (Str × V) := [("head", h), ("coins", c), ("until", u), ("note", n)]
def sp_Hold___init__ (K : PySem.W.Frag) : Sp := fun vs H Q E => ∃ p dx h c u n, vs = [.ref p, h, c, u, n] ∧ H p = some (.ins (He.ga K "Hold") dx []) ∧ Knd K H h ∧ Knd K H c ∧ Knd K H u ∧ Knd K H n ∧
  (okHoldB h c u n = true → Q .non (upd H p (.ins (He.ga K "Hold") dx (fsHold h c u n)))) ∧ (okHoldB h c u n = false → ∀ H', Same H H' → E (.ref (He.ga K "NoEntry")) none H')
def sp_Hold_told (K : PySem.W.Frag) : Sp := fun vs H Q _ => ∃ p dx h c u n, vs = [.ref p] ∧ H p = some (.ins (He.ga K "Hold") dx (fsHold h c u n)) ∧ ∀ t, H t = none → Q (.ref t) (upd H t (.tup [.str "hold", h, c, u, n]))

theorem ok_Hold___init__ (T : Tx P w K mg base) : DefOk P w K mg base 4 ("Hold", some "__init__") ["self", "head", "coins", "until", "note"] (sp_Hold___init__ K) := by
  refine mkOk T.f_Hold___init__ sc_Hold___init__ (fun vs H Q E h => ?_) (fun _ _ _ _ _ _ us hl => match us, hl with | [_, _, _, _, _], _ => rfl) (fun cdv A outer s H vs Q E hr h => ?_)
  · obtain ⟨p, dx, h, c, u, n, rfl, hp, yh, yc, yu, yn, k1, k2⟩ := h
    rfl
  · obtain ⟨p, dx, h, c, u, n, rfl, hp, yh, yc, yu, yn, k1, k2⟩ := h
    refine ⟨_, (pss_cons (ps_expr (kc (ok_check (K := K) T) T.g_check (hr.mono (by decide)) pB (pa_cons (pe_and (kc (ok_is_name (K := K) T) T.g_is_name (hr.mono (by decide)) pB (pa_cons (pv 1) pa_nil)) (pe_one (kc (ok_within (K := K) T) T.g_within (hr.mono (by decide)) pB (pa_cons (pv 3) (pa_cons pe_int (pa_cons (kgI T.g_LAST_UNTIL) pa_nil)))))) pa_nil)))
      (pss_cons (ps_expr (kc (ok_check_coins (K := K) T) T.g_check_coins (hr.mono (by decide)) pB (pa_cons (pv 2) (pa_cons (pv 4) pa_nil))))
      (pss_cons (psfK K rfl (pv 0) (pv 1) rfl)
      (pss_cons (psfK K rfl (pv 0) (pv 2) rfl)
      (pss_cons (psfK K rfl (pv 0) (pv 3) rfl)
      (pss_one (psfK K rfl (pv 0) (pv 4) rfl))))))), ?_⟩
    walk_at "go"
    refine ⟨h, rfl, yh, ?_⟩
    walk_at "go"
    cases e : nameB h with
    | false =>
      walk_at "go"
      refine ⟨false, rfl, (fun z => nomatch z), fun _ H' s' => k2 (by simp [okHoldB, e]) H' s'⟩
    | true =>
      walk_at "go"
      refine ⟨u, 2, 31, rfl, yu, ?_⟩
      cases e2 : withinB u 2 31 with
      | false => refine ⟨false, rfl, (fun z => nomatch z), fun _ H' s' => k2 (by simp [okHoldB, e, e2]) H' s'⟩
      | true =>
        refine ⟨true, rfl, fun _ => ?_, (fun z => nomatch z)⟩
        walk_at "go"
        refine ⟨c, n, rfl, yc, yn, fun hc2 => ?_, fun hc2 H' s' => k2 (by simp [okHoldB, e, e2, hc2]) H' s'⟩
        walk_at "go"
        refine v_fldS (fs := []) (by first | exact hp | exact upd_same) T.c_Hold T.a_Hold_head (by show 0 < 1000; decide) (by rfl) ?_
        skip
        walk_at "go"
        refine v_fldS (fs := [("head", h)]) (by first | exact hp | exact upd_same) T.c_Hold T.a_Hold_coins (by show 1 < 1000; decide) (by rfl) ?_
        rw [upd_upd]
        walk_at "go"
        refine v_fldS (fs := [("head", h), ("coins", c)]) (by first | exact hp | exact upd_same) T.c_Hold T.a_Hold_until (by show 2 < 1000; decide) (by rfl) ?_
        rw [upd_upd]
        walk_at "go"
        refine v_fldS (fs := [("head", h), ("coins", c), ("until", u)]) (by first | exact hp | exact upd_same) T.c_Hold T.a_Hold_note (by show 3 < 1000; decide) (by rfl) ?_
        rw [upd_upd]
        walk_at "go"
        exact k1 (by simp [okHoldB, e, e2, hc2])

theorem ok_Hold_told (T : Tx P w K mg base) : DefOk P w K mg base 1 ("Hold", some "told") ["self"] (sp_Hold_told K) := by
  refine mkOk T.f_Hold_told sc_Hold_told (fun vs H Q E h => ?_) (fun _ _ _ _ _ _ us hl => match us, hl with | [_], _ => rfl) (fun cdv A outer s H vs Q E hr h => ?_)
  · obtain ⟨p, dx, h, c, u, n, rfl, hp, k⟩ := h
    rfl
  · obtain ⟨p, dx, h, c, u, n, rfl, hp, k⟩ := h
    refine ⟨_, (pss_one (ps_ret (pe_tup (pa_cons pe_str (pa_cons (fldK K rfl (pv 0) rfl) (pa_cons (fldK K rfl (pv 0) rfl) (pa_cons (fldK K rfl (pv 0) rfl) (pa_cons (fldK K rfl (pv 0) rfl) pa_nil)))))))), ?_⟩
    walk_at "go"
    refine v_fld hp T.c_Hold T.a_Hold_head (by rfl) ?_
    walk_at "go"
    refine v_fld hp T.c_Hold T.a_Hold_coins (by rfl) ?_
    walk_at "go"
    refine v_fld hp T.c_Hold T.a_Hold_until (by rfl) ?_
    walk_at "go"
    refine v_fld hp T.c_Hold T.a_Hold_note (by rfl) ?_
    walk_at "go"
    exact ⟨by show 5 ≤ sizeLine; decide, fun t ht => k t ht⟩

def okMoveB (h o c n : V) : Bool := (nameB h && (nameB o && !decide (h = o))) && coinsB c n
def fsMove (h o c n : V) : List (Str × V) := [("head", h), ("other", o), ("coins", c), ("note", n)]
def sp_Move___init__ (K : PySem.W.Frag) : Sp := fun vs H Q E => ∃ p dx h o c n, vs = [.ref p, h, o, c, n] ∧ H p = some (.ins (He.ga K "Move") dx []) ∧ Knd K H h ∧ Knd K H o ∧ Knd K H c ∧ Knd K H n ∧
  (okMoveB h o c n = true → Q .non (upd H p (.ins (He.ga K "Move") dx (fsMove h o c n)))) ∧ (okMoveB h o c n = false → ∀ H', Same H H' → E (.ref (He.ga K "NoEntry")) none H')
def sp_Move_told (K : PySem.W.Frag) : Sp := fun vs H Q _ => ∃ p dx h o c n, vs = [.ref p] ∧ H p = some (.ins (He.ga K "Move") dx (fsMove h o c n)) ∧ ∀ t, H t = none → Q (.ref t) (upd H t (.tup [.str "move", h, o, c, n]))

theorem ok_Move___init__ (T : Tx P w K mg base) : DefOk P w K mg base 4 ("Move", some "__init__") ["self", "head", "other", "coins", "note"] (sp_Move___init__ K) := by
  refine mkOk T.f_Move___init__ sc_Move___init__ (fun vs H Q E h => ?_) (fun _ _ _ _ _ _ us hl => match us, hl with | [_, _, _, _, _], _ => rfl) (fun cdv A outer s H vs Q E hr h => ?_)
  · obtain ⟨p, dx, h, o, c, n, rfl, hp, yh, yo, yc, yn, k1, k2⟩ := h
    rfl
  · obtain ⟨p, dx, h, o, c, n, rfl, hp, yh, yo, yc, yn, k1, k2⟩ := h
    refine ⟨_, (pss_cons (ps_expr (kc (ok_check (K := K) T) T.g_check (hr.mono (by decide)) pB (pa_cons (pe_and (kc (ok_is_name (K := K) T) T.g_is_name (hr.mono (by decide)) pB (pa_cons (pv 1) pa_nil)) (pe_and (kc (ok_is_name (K := K) T) T.g_is_name (hr.mono (by decide)) pB (pa_cons (pv 2) pa_nil)) (pe_one (pe_cmpR (neK K rfl hr) (pv 1) (pv 2) (nomark _))))) pa_nil)))
      (pss_cons (ps_expr (kc (ok_check_coins (K := K) T) T.g_check_coins (hr.mono (by decide)) pB (pa_cons (pv 3) (pa_cons (pv 4) pa_nil))))
      (pss_cons (psfK K rfl (pv 0) (pv 1) rfl)
      (pss_cons (psfK K rfl (pv 0) (pv 2) rfl)
      (pss_cons (psfK K rfl (pv 0) (pv 3) rfl)
      (pss_one (psfK K rfl (pv 0) (pv 4) rfl))))))), ?_⟩
    walk_at "go"
    refine ⟨h, rfl, yh, ?_⟩
    walk_at "go"
    cases e : nameB h with
    | false =>
      walk_at "go"
      refine ⟨false, rfl, (fun z => nomatch z), fun _ H' s' => k2 (by simp [okMoveB, e]) H' s'⟩
    | true =>
      walk_at "go"
      refine ⟨o, rfl, yo, ?_⟩
      walk_at "go"
      cases e2 : nameB o with
      | false =>
        walk_at "go"
        refine ⟨false, rfl, (fun z => nomatch z), fun _ H' s' => k2 (by simp [okMoveB, e, e2]) H' s'⟩
      | true =>
        walk_at "go"
        obtain ⟨a, rfl⟩ := nameB_str e
        obtain ⟨b, rfl⟩ := nameB_str e2
        walk_at "go"
        by_cases e3 : a = b
        · rw [decide_eq_true e3]
          subst e3
          refine ⟨false, rfl, (fun z => nomatch z), fun _ H' s' => k2 (by simp [okMoveB, e]) H' s'⟩
        · rw [decide_eq_false e3]
          have e4 : decide (V.str a = V.str b) = false := decide_eq_false (fun z => e3 (by injection z))
          have e5 : okMoveB (V.str a) (V.str b) c n = coinsB c n := by
            unfold okMoveB
            rw [e, e2, e4]
            rfl
          refine ⟨true, rfl, fun _ => ?_, (fun z => nomatch z)⟩
          walk_at "go"
          refine ⟨c, n, rfl, yc, yn, fun hc2 => ?_, fun hc2 H' s' => k2 (by rw [e5, hc2]) H' s'⟩
          walk_at "go"
          refine v_fldS (fs := []) (by first | exact hp | exact upd_same) T.c_Move T.a_Move_head (by show 0 < 1000; decide) (by rfl) ?_
          skip
          walk_at "go"
          refine v_fldS (fs := [("head", V.str a)]) (by first | exact hp | exact upd_same) T.c_Move T.a_Move_other (by show 1 < 1000; decide) (by rfl) ?_
          rw [upd_upd]
          walk_at "go"
          refine v_fldS (fs := [("head", V.str a), ("other", V.str b)]) (by first | exact hp | exact upd_same) T.c_Move T.a_Move_coins (by show 2 < 1000; decide) (by rfl) ?_
          rw [upd_upd]
          walk_at "go"
          refine v_fldS (fs := [("head", V.str a), ("other", V.str b), ("coins", c)]) (by first | exact hp | exact upd_same) T.c_Move T.a_Move_note (by show 3 < 1000; decide) (by rfl) ?_
          rw [upd_upd]
          walk_at "go"
          exact k1 (by rw [e5, hc2])

theorem ok_Move_told (T : Tx P w K mg base) : DefOk P w K mg base 1 ("Move", some "told") ["self"] (sp_Move_told K) := by
  refine mkOk T.f_Move_told sc_Move_told (fun vs H Q E h => ?_) (fun _ _ _ _ _ _ us hl => match us, hl with | [_], _ => rfl) (fun cdv A outer s H vs Q E hr h => ?_)
  · obtain ⟨p, dx, h, o, c, n, rfl, hp, k⟩ := h
    rfl
  · obtain ⟨p, dx, h, o, c, n, rfl, hp, k⟩ := h
    refine ⟨_, (pss_one (ps_ret (pe_tup (pa_cons pe_str (pa_cons (fldK K rfl (pv 0) rfl) (pa_cons (fldK K rfl (pv 0) rfl) (pa_cons (fldK K rfl (pv 0) rfl) (pa_cons (fldK K rfl (pv 0) rfl) pa_nil)))))))), ?_⟩
    walk_at "go"
    refine v_fld hp T.c_Move T.a_Move_head (by rfl) ?_
    walk_at "go"
    refine v_fld hp T.c_Move T.a_Move_other (by rfl) ?_
    walk_at "go"
    refine v_fld hp T.c_Move T.a_Move_coins (by rfl) ?_
    walk_at "go"
    refine v_fld hp T.c_Move T.a_Move_note (by rfl) ?_
    walk_at "go"
    exact ⟨by show 5 ≤ sizeLine; decide, fun t ht => k t ht⟩

def okSpendB (h c n : V) : Bool := nameB h && coinsB c n
def fsSpend (h c n : V) : List (Str × V) := [("head", h), ("coins", c), ("note", n)]
def sp_Spend___init__ (K : PySem.W.Frag) : Sp := fun vs H Q E => ∃ p dx h c n, vs = [.ref p, h, c, n] ∧ H p = some (.ins (He.ga K "Spend") dx []) ∧ Knd K H h ∧ Knd K H c ∧ Knd K H n ∧
  (okSpendB h c n = true → Q .non (upd H p (.ins (He.ga K "Spend") dx (fsSpend h c n)))) ∧ (okSpendB h c n = false → ∀ H', Same H H' → E (.ref (He.ga K "NoEntry")) none H')
def sp_Spend_told (K : PySem.W.Frag) : Sp := fun vs H Q _ => ∃ p dx h c n, vs = [.ref p] ∧ H p = some (.ins (He.ga K "Spend") dx (fsSpend h c n)) ∧ ∀ t, H t = none → Q (.ref t) (upd H t (.tup [.str "spend", h, c, n]))

theorem ok_Spend___init__ (T : Tx P w K mg base) : DefOk P w K mg base 4 ("Spend", some "__init__") ["self", "head", "coins", "note"] (sp_Spend___init__ K) := by
  refine mkOk T.f_Spend___init__ sc_Spend___init__ (fun vs H Q E h => ?_) (fun _ _ _ _ _ _ us hl => match us, hl with | [_, _, _, _], _ => rfl) (fun cdv A outer s H vs Q E hr h => ?_)
  · obtain ⟨p, dx, h, c, n, rfl, hp, yh, yc, yn, k1, k2⟩ := h
    rfl
  · obtain ⟨p, dx, h, c, n, rfl, hp, yh, yc, yn, k1, k2⟩ := h
    refine ⟨_, (pss_cons (ps_expr (kc (ok_check (K := K) T) T.g_check (hr.mono (by decide)) pB (pa_cons (kc (ok_is_name (K := K) T) T.g_is_name (hr.mono (by decide)) pB (pa_cons (pv 1) pa_nil)) pa_nil)))
      (pss_cons (ps_expr (kc (ok_check_coins (K := K) T) T.g_check_coins (hr.mono (by decide)) pB (pa_cons (pv 2) (pa_cons (pv 3) pa_nil))))
      (pss_cons (psfK K rfl (pv 0) (pv 1) rfl)
      (pss_cons (psfK K rfl (pv 0) (pv 2) rfl)
      (pss_one (psfK K rfl (pv 0) (pv 3) rfl)))))), ?_⟩
    walk_at "go"
    refine ⟨h, rfl, yh, ?_⟩
    cases e : nameB h with
    | false =>
      refine ⟨false, rfl, (fun z => nomatch z), fun _ H' s' => k2 (by simp [okSpendB, e]) H' s'⟩
    | true =>
      refine ⟨true, rfl, fun _ => ?_, (fun z => nomatch z)⟩
      walk_at "go"
      refine ⟨c, n, rfl, yc, yn, fun hc2 => ?_, fun hc2 H' s' => k2 (by simp [okSpendB, e, hc2]) H' s'⟩
      walk_at "go"
      refine v_fldS (fs := []) (by first | exact hp | exact upd_same) T.c_Spend T.a_Spend_head (by show 0 < 1000; decide) (by rfl) ?_
      skip
      walk_at "go"
      refine v_fldS (fs := [("head", h)]) (by first | exact hp | exact upd_same) T.c_Spend T.a_Spend_coins (by show 1 < 1000; decide) (by rfl) ?_
      rw [upd_upd]
      walk_at "go"
      refine v_fldS (fs := [("head", h), ("coins", c)]) (by first | exact hp | exact upd_same) T.c_Spend T.a_Spend_note (by show 2 < 1000; decide) (by rfl) ?_
      rw [upd_upd]
      walk_at "go"
      exact k1 (by simp [okSpendB, e, hc2])

theorem ok_Spend_told (T : Tx P w K mg base) : DefOk P w K mg base 1 ("Spend", some "told") ["self"] (sp_Spend_told K) := by
  refine mkOk T.f_Spend_told sc_Spend_told (fun vs H Q E h => ?_) (fun _ _ _ _ _ _ us hl => match us, hl with | [_], _ => rfl) (fun cdv A outer s H vs Q E hr h => ?_)
  · obtain ⟨p, dx, h, c, n, rfl, hp, k⟩ := h
    rfl
  · obtain ⟨p, dx, h, c, n, rfl, hp, k⟩ := h
    refine ⟨_, (pss_one (ps_ret (pe_tup (pa_cons pe_str (pa_cons (fldK K rfl (pv 0) rfl) (pa_cons (fldK K rfl (pv 0) rfl) (pa_cons (fldK K rfl (pv 0) rfl) pa_nil))))))), ?_⟩
    walk_at "go"
    refine v_fld hp T.c_Spend T.a_Spend_head (by rfl) ?_
    walk_at "go"
    refine v_fld hp T.c_Spend T.a_Spend_coins (by rfl) ?_
    walk_at "go"
    refine v_fld hp T.c_Spend T.a_Spend_note (by rfl) ?_
    walk_at "go"
    exact ⟨by show 4 ≤ sizeLine; decide, fun t ht => k t ht⟩

def okPromiseB (r h c n : V) : Bool := (nameB r && nameB h) && coinsB c n
def fsPromise (r h c n : V) : List (Str × V) := [("word", r), ("head", h), ("coins", c), ("note", n)]
def sp_Promise___init__ (K : PySem.W.Frag) : Sp := fun vs H Q E => ∃ p dx r h c n, vs = [.ref p, r, h, c, n] ∧ H p = some (.ins (He.ga K "Promise") dx []) ∧ Knd K H r ∧ Knd K H h ∧ Knd K H c ∧ Knd K H n ∧
  (okPromiseB r h c n = true → Q .non (upd H p (.ins (He.ga K "Promise") dx (fsPromise r h c n)))) ∧ (okPromiseB r h c n = false → ∀ H', Same H H' → E (.ref (He.ga K "NoEntry")) none H')
def sp_Promise_told (K : PySem.W.Frag) : Sp := fun vs H Q _ => ∃ p dx r h c n, vs = [.ref p] ∧ H p = some (.ins (He.ga K "Promise") dx (fsPromise r h c n)) ∧ ∀ t, H t = none → Q (.ref t) (upd H t (.tup [.str "promise", r, h, c, n]))

theorem ok_Promise___init__ (T : Tx P w K mg base) : DefOk P w K mg base 4 ("Promise", some "__init__") ["self", "word", "head", "coins", "note"] (sp_Promise___init__ K) := by
  refine mkOk T.f_Promise___init__ sc_Promise___init__ (fun vs H Q E h => ?_) (fun _ _ _ _ _ _ us hl => match us, hl with | [_, _, _, _, _], _ => rfl) (fun cdv A outer s H vs Q E hr h => ?_)
  · obtain ⟨p, dx, r, h, c, n, rfl, hp, yr, yh, yc, yn, k1, k2⟩ := h
    rfl
  · obtain ⟨p, dx, r, h, c, n, rfl, hp, yr, yh, yc, yn, k1, k2⟩ := h
    refine ⟨_, (pss_cons (ps_expr (kc (ok_check (K := K) T) T.g_check (hr.mono (by decide)) pB (pa_cons (pe_and (kc (ok_is_name (K := K) T) T.g_is_name (hr.mono (by decide)) pB (pa_cons (pv 1) pa_nil)) (pe_one (kc (ok_is_name (K := K) T) T.g_is_name (hr.mono (by decide)) pB (pa_cons (pv 2) pa_nil)))) pa_nil)))
      (pss_cons (ps_expr (kc (ok_check_coins (K := K) T) T.g_check_coins (hr.mono (by decide)) pB (pa_cons (pv 3) (pa_cons (pv 4) pa_nil))))
      (pss_cons (psfK K rfl (pv 0) (pv 1) rfl)
      (pss_cons (psfK K rfl (pv 0) (pv 2) rfl)
      (pss_cons (psfK K rfl (pv 0) (pv 3) rfl)
      (pss_one (psfK K rfl (pv 0) (pv 4) rfl))))))), ?_⟩
    walk_at "go"
    refine ⟨r, rfl, yr, ?_⟩
    walk_at "go"
    cases e : nameB r with
    | false =>
      walk_at "go"
      refine ⟨false, rfl, (fun z => nomatch z), fun _ H' s' => k2 (by simp [okPromiseB, e]) H' s'⟩
    | true =>
      walk_at "go"
      refine ⟨h, rfl, yh, ?_⟩
      cases e2 : nameB h with
      | false => refine ⟨false, rfl, (fun z => nomatch z), fun _ H' s' => k2 (by simp [okPromiseB, e, e2]) H' s'⟩
      | true =>
        refine ⟨true, rfl, fun _ => ?_, (fun z => nomatch z)⟩
        walk_at "go"
        refine ⟨c, n, rfl, yc, yn, fun hc2 => ?_, fun hc2 H' s' => k2 (by simp [okPromiseB, e, e2, hc2]) H' s'⟩
        walk_at "go"
        refine v_fldS (fs := []) (by first | exact hp | exact upd_same) T.c_Promise T.a_Promise_word (by show 0 < 1000; decide) (by rfl) ?_
        skip
        walk_at "go"
        refine v_fldS (fs := [("word", r)]) (by first | exact hp | exact upd_same) T.c_Promise T.a_Promise_head (by show 1 < 1000; decide) (by rfl) ?_
        rw [upd_upd]
        walk_at "go"
        refine v_fldS (fs := [("word", r), ("head", h)]) (by first | exact hp | exact upd_same) T.c_Promise T.a_Promise_coins (by show 2 < 1000; decide) (by rfl) ?_
        rw [upd_upd]
        walk_at "go"
        refine v_fldS (fs := [("word", r), ("head", h), ("coins", c)]) (by first | exact hp | exact upd_same) T.c_Promise T.a_Promise_note (by show 3 < 1000; decide) (by rfl) ?_
        rw [upd_upd]
        walk_at "go"
        exact k1 (by simp [okPromiseB, e, e2, hc2])

theorem ok_Promise_told (T : Tx P w K mg base) : DefOk P w K mg base 1 ("Promise", some "told") ["self"] (sp_Promise_told K) := by
  refine mkOk T.f_Promise_told sc_Promise_told (fun vs H Q E h => ?_) (fun _ _ _ _ _ _ us hl => match us, hl with | [_], _ => rfl) (fun cdv A outer s H vs Q E hr h => ?_)
  · obtain ⟨p, dx, r, h, c, n, rfl, hp, k⟩ := h
    rfl
  · obtain ⟨p, dx, r, h, c, n, rfl, hp, k⟩ := h
    refine ⟨_, (pss_one (ps_ret (pe_tup (pa_cons pe_str (pa_cons (fldK K rfl (pv 0) rfl) (pa_cons (fldK K rfl (pv 0) rfl) (pa_cons (fldK K rfl (pv 0) rfl) (pa_cons (fldK K rfl (pv 0) rfl) pa_nil)))))))), ?_⟩
    walk_at "go"
    refine v_fld hp T.c_Promise T.a_Promise_word (by rfl) ?_
    walk_at "go"
    refine v_fld hp T.c_Promise T.a_Promise_head (by rfl) ?_
    walk_at "go"
    refine v_fld hp T.c_Promise T.a_Promise_coins (by rfl) ?_
    walk_at "go"
    refine v_fld hp T.c_Promise T.a_Promise_note (by rfl) ?_
    walk_at "go"
    exact ⟨by show 5 ≤ sizeLine; decide, fun t ht => k t ht⟩

def okLessenB (r c n : V) : Bool := nameB r && coinsB c n
def fsLessen (r c n : V) : List (Str × V) := [("word", r), ("coins", c), ("note", n)]
def sp_Lessen___init__ (K : PySem.W.Frag) : Sp := fun vs H Q E => ∃ p dx r c n, vs = [.ref p, r, c, n] ∧ H p = some (.ins (He.ga K "Lessen") dx []) ∧ Knd K H r ∧ Knd K H c ∧ Knd K H n ∧
  (okLessenB r c n = true → Q .non (upd H p (.ins (He.ga K "Lessen") dx (fsLessen r c n)))) ∧ (okLessenB r c n = false → ∀ H', Same H H' → E (.ref (He.ga K "NoEntry")) none H')
def sp_Lessen_told (K : PySem.W.Frag) : Sp := fun vs H Q _ => ∃ p dx r c n, vs = [.ref p] ∧ H p = some (.ins (He.ga K "Lessen") dx (fsLessen r c n)) ∧ ∀ t, H t = none → Q (.ref t) (upd H t (.tup [.str "lessen", r, c, n]))

theorem ok_Lessen___init__ (T : Tx P w K mg base) : DefOk P w K mg base 4 ("Lessen", some "__init__") ["self", "word", "coins", "note"] (sp_Lessen___init__ K) := by
  refine mkOk T.f_Lessen___init__ sc_Lessen___init__ (fun vs H Q E h => ?_) (fun _ _ _ _ _ _ us hl => match us, hl with | [_, _, _, _], _ => rfl) (fun cdv A outer s H vs Q E hr h => ?_)
  · obtain ⟨p, dx, r, c, n, rfl, hp, yr, yc, yn, k1, k2⟩ := h
    rfl
  · obtain ⟨p, dx, r, c, n, rfl, hp, yr, yc, yn, k1, k2⟩ := h
    refine ⟨_, (pss_cons (ps_expr (kc (ok_check (K := K) T) T.g_check (hr.mono (by decide)) pB (pa_cons (kc (ok_is_name (K := K) T) T.g_is_name (hr.mono (by decide)) pB (pa_cons (pv 1) pa_nil)) pa_nil)))
      (pss_cons (ps_expr (kc (ok_check_coins (K := K) T) T.g_check_coins (hr.mono (by decide)) pB (pa_cons (pv 2) (pa_cons (pv 3) pa_nil))))
      (pss_cons (psfK K rfl (pv 0) (pv 1) rfl)
      (pss_cons (psfK K rfl (pv 0) (pv 2) rfl)
      (pss_one (psfK K rfl (pv 0) (pv 3) rfl)))))), ?_⟩
    walk_at "go"
    refine ⟨r, rfl, yr, ?_⟩
    cases e : nameB r with
    | false =>
      refine ⟨false, rfl, (fun z => nomatch z), fun _ H' s' => k2 (by simp [okLessenB, e]) H' s'⟩
    | true =>
      refine ⟨true, rfl, fun _ => ?_, (fun z => nomatch z)⟩
      walk_at "go"
      refine ⟨c, n, rfl, yc, yn, fun hc2 => ?_, fun hc2 H' s' => k2 (by simp [okLessenB, e, hc2]) H' s'⟩
      walk_at "go"
      refine v_fldS (fs := []) (by first | exact hp | exact upd_same) T.c_Lessen T.a_Lessen_word (by show 0 < 1000; decide) (by rfl) ?_
      skip
      walk_at "go"
      refine v_fldS (fs := [("word", r)]) (by first | exact hp | exact upd_same) T.c_Lessen T.a_Lessen_coins (by show 1 < 1000; decide) (by rfl) ?_
      rw [upd_upd]
      walk_at "go"
      refine v_fldS (fs := [("word", r), ("coins", c)]) (by first | exact hp | exact upd_same) T.c_Lessen T.a_Lessen_note (by show 2 < 1000; decide) (by rfl) ?_
      rw [upd_upd]
      walk_at "go"
      exact k1 (by simp [okLessenB, e, hc2])

theorem ok_Lessen_told (T : Tx P w K mg base) : DefOk P w K mg base 1 ("Lessen", some "told") ["self"] (sp_Lessen_told K) := by
  refine mkOk T.f_Lessen_told sc_Lessen_told (fun vs H Q E h => ?_) (fun _ _ _ _ _ _ us hl => match us, hl with | [_], _ => rfl) (fun cdv A outer s H vs Q E hr h => ?_)
  · obtain ⟨p, dx, r, c, n, rfl, hp, k⟩ := h
    rfl
  · obtain ⟨p, dx, r, c, n, rfl, hp, k⟩ := h
    refine ⟨_, (pss_one (ps_ret (pe_tup (pa_cons pe_str (pa_cons (fldK K rfl (pv 0) rfl) (pa_cons (fldK K rfl (pv 0) rfl) (pa_cons (fldK K rfl (pv 0) rfl) pa_nil))))))), ?_⟩
    walk_at "go"
    refine v_fld hp T.c_Lessen T.a_Lessen_word (by rfl) ?_
    walk_at "go"
    refine v_fld hp T.c_Lessen T.a_Lessen_coins (by rfl) ?_
    walk_at "go"
    refine v_fld hp T.c_Lessen T.a_Lessen_note (by rfl) ?_
    walk_at "go"
    exact ⟨by show 4 ≤ sizeLine; decide, fun t ht => k t ht⟩

def okOutB (r c n : V) : Bool := nameB r && coinsB c n
def fsOut (r c n : V) : List (Str × V) := [("word", r), ("coins", c), ("note", n)]
def sp_Out___init__ (K : PySem.W.Frag) : Sp := fun vs H Q E => ∃ p dx r c n, vs = [.ref p, r, c, n] ∧ H p = some (.ins (He.ga K "Out") dx []) ∧ Knd K H r ∧ Knd K H c ∧ Knd K H n ∧
  (okOutB r c n = true → Q .non (upd H p (.ins (He.ga K "Out") dx (fsOut r c n)))) ∧ (okOutB r c n = false → ∀ H', Same H H' → E (.ref (He.ga K "NoEntry")) none H')
def sp_Out_told (K : PySem.W.Frag) : Sp := fun vs H Q _ => ∃ p dx r c n, vs = [.ref p] ∧ H p = some (.ins (He.ga K "Out") dx (fsOut r c n)) ∧ ∀ t, H t = none → Q (.ref t) (upd H t (.tup [.str "out", r, c, n]))

theorem ok_Out___init__ (T : Tx P w K mg base) : DefOk P w K mg base 4 ("Out", some "__init__") ["self", "word", "coins", "note"] (sp_Out___init__ K) := by
  refine mkOk T.f_Out___init__ sc_Out___init__ (fun vs H Q E h => ?_) (fun _ _ _ _ _ _ us hl => match us, hl with | [_, _, _, _], _ => rfl) (fun cdv A outer s H vs Q E hr h => ?_)
  · obtain ⟨p, dx, r, c, n, rfl, hp, yr, yc, yn, k1, k2⟩ := h
    rfl
  · obtain ⟨p, dx, r, c, n, rfl, hp, yr, yc, yn, k1, k2⟩ := h
    refine ⟨_, (pss_cons (ps_expr (kc (ok_check (K := K) T) T.g_check (hr.mono (by decide)) pB (pa_cons (kc (ok_is_name (K := K) T) T.g_is_name (hr.mono (by decide)) pB (pa_cons (pv 1) pa_nil)) pa_nil)))
      (pss_cons (ps_expr (kc (ok_check_coins (K := K) T) T.g_check_coins (hr.mono (by decide)) pB (pa_cons (pv 2) (pa_cons (pv 3) pa_nil))))
      (pss_cons (psfK K rfl (pv 0) (pv 1) rfl)
      (pss_cons (psfK K rfl (pv 0) (pv 2) rfl)
      (pss_one (psfK K rfl (pv 0) (pv 3) rfl)))))), ?_⟩
    walk_at "go"
    refine ⟨r, rfl, yr, ?_⟩
    cases e : nameB r with
    | false =>
      refine ⟨false, rfl, (fun z => nomatch z), fun _ H' s' => k2 (by simp [okOutB, e]) H' s'⟩
    | true =>
      refine ⟨true, rfl, fun _ => ?_, (fun z => nomatch z)⟩
      walk_at "go"
      refine ⟨c, n, rfl, yc, yn, fun hc2 => ?_, fun hc2 H' s' => k2 (by simp [okOutB, e, hc2]) H' s'⟩
      walk_at "go"
      refine v_fldS (fs := []) (by first | exact hp | exact upd_same) T.c_Out T.a_Out_word (by show 0 < 1000; decide) (by rfl) ?_
      skip
      walk_at "go"
      refine v_fldS (fs := [("word", r)]) (by first | exact hp | exact upd_same) T.c_Out T.a_Out_coins (by show 1 < 1000; decide) (by rfl) ?_
      rw [upd_upd]
      walk_at "go"
      refine v_fldS (fs := [("word", r), ("coins", c)]) (by first | exact hp | exact upd_same) T.c_Out T.a_Out_note (by show 2 < 1000; decide) (by rfl) ?_
      rw [upd_upd]
      walk_at "go"
      exact k1 (by simp [okOutB, e, hc2])

theorem ok_Out_told (T : Tx P w K mg base) : DefOk P w K mg base 1 ("Out", some "told") ["self"] (sp_Out_told K) := by
  refine mkOk T.f_Out_told sc_Out_told (fun vs H Q E h => ?_) (fun _ _ _ _ _ _ us hl => match us, hl with | [_], _ => rfl) (fun cdv A outer s H vs Q E hr h => ?_)
  · obtain ⟨p, dx, r, c, n, rfl, hp, k⟩ := h
    rfl
  · obtain ⟨p, dx, r, c, n, rfl, hp, k⟩ := h
    refine ⟨_, (pss_one (ps_ret (pe_tup (pa_cons pe_str (pa_cons (fldK K rfl (pv 0) rfl) (pa_cons (fldK K rfl (pv 0) rfl) (pa_cons (fldK K rfl (pv 0) rfl) pa_nil))))))), ?_⟩
    walk_at "go"
    refine v_fld hp T.c_Out T.a_Out_word (by rfl) ?_
    walk_at "go"
    refine v_fld hp T.c_Out T.a_Out_coins (by rfl) ?_
    walk_at "go"
    refine v_fld hp T.c_Out T.a_Out_note (by rfl) ?_
    walk_at "go"
    exact ⟨by show 4 ≤ sizeLine; decide, fun t ht => k t ht⟩

theorem mk_Give {h c n : V} {H : Hp} {Q : VK} {E : XK} (yh : Knd K H h) (yc : Knd K H c) (yn : Knd K H n) (k1 : okGiveB h c n = true → ∀ x dx H2, H x = none → Same H H2 → H2 x = some (.ins (He.ga K "Give") dx (fsGive h c n)) → Q (.ref x) H2)
    (k2 : okGiveB h c n = false → ∀ H', Same H H' → E (.ref (He.ga K "NoEntry")) none H') : ∀ x dx, H x = none → H dx = none → dx ≠ x → sp_Give___init__ K (.ref x :: [h, c, n]) (upd (upd H dx (.own x)) x (.ins (He.ga K "Give") dx [])) (fun v H2 => v = .non ∧ Q (.ref x) H2) E := by
  intro x dx nx nd ne
  have s0 : Same H (upd (upd H dx (.own x)) x (.ins (He.ga K "Give") dx [])) := (Same.new nd).mut nx
  refine ⟨x, dx, h, c, n, rfl, upd_same, yh.same s0, yc.same s0, yn.same s0, fun h => ⟨rfl, k1 h x dx _ nx (s0.mut nx) upd_same⟩, fun h H' s' => k2 h H' (s0.trans s')⟩

theorem mk_Hold {h c u n : V} {H : Hp} {Q : VK} {E : XK} (yh : Knd K H h) (yc : Knd K H c) (yu : Knd K H u) (yn : Knd K H n) (k1 : okHoldB h c u n = true → ∀ x dx H2, H x = none → Same H H2 → H2 x = some (.ins (He.ga K "Hold") dx (fsHold h c u n)) → Q (.ref x) H2)
    (k2 : okHoldB h c u n = false → ∀ H', Same H H' → E (.ref (He.ga K "NoEntry")) none H') : ∀ x dx, H x = none → H dx = none → dx ≠ x → sp_Hold___init__ K (.ref x :: [h, c, u, n]) (upd (upd H dx (.own x)) x (.ins (He.ga K "Hold") dx [])) (fun v H2 => v = .non ∧ Q (.ref x) H2) E := by
  intro x dx nx nd ne
  have s0 : Same H (upd (upd H dx (.own x)) x (.ins (He.ga K "Hold") dx [])) := (Same.new nd).mut nx
  refine ⟨x, dx, h, c, u, n, rfl, upd_same, yh.same s0, yc.same s0, yu.same s0, yn.same s0, fun h => ⟨rfl, k1 h x dx _ nx (s0.mut nx) upd_same⟩, fun h H' s' => k2 h H' (s0.trans s')⟩

theorem mk_Move {h o c n : V} {H : Hp} {Q : VK} {E : XK} (yh : Knd K H h) (yo : Knd K H o) (yc : Knd K H c) (yn : Knd K H n) (k1 : okMoveB h o c n = true → ∀ x dx H2, H x = none → Same H H2 → H2 x = some (.ins (He.ga K "Move") dx (fsMove h o c n)) → Q (.ref x) H2)
    (k2 : okMoveB h o c n = false → ∀ H', Same H H' → E (.ref (He.ga K "NoEntry")) none H') : ∀ x dx, H x = none → H dx = none → dx ≠ x → sp_Move___init__ K (.ref x :: [h, o, c, n]) (upd (upd H dx (.own x)) x (.ins (He.ga K "Move") dx [])) (fun v H2 => v = .non ∧ Q (.ref x) H2) E := by
  intro x dx nx nd ne
  have s0 : Same H (upd (upd H dx (.own x)) x (.ins (He.ga K "Move") dx [])) := (Same.new nd).mut nx
  refine ⟨x, dx, h, o, c, n, rfl, upd_same, yh.same s0, yo.same s0, yc.same s0, yn.same s0, fun h => ⟨rfl, k1 h x dx _ nx (s0.mut nx) upd_same⟩, fun h H' s' => k2 h H' (s0.trans s')⟩

theorem mk_Spend {h c n : V} {H : Hp} {Q : VK} {E : XK} (yh : Knd K H h) (yc : Knd K H c) (yn : Knd K H n) (k1 : okSpendB h c n = true → ∀ x dx H2, H x = none → Same H H2 → H2 x = some (.ins (He.ga K "Spend") dx (fsSpend h c n)) → Q (.ref x) H2)
    (k2 : okSpendB h c n = false → ∀ H', Same H H' → E (.ref (He.ga K "NoEntry")) none H') : ∀ x dx, H x = none → H dx = none → dx ≠ x → sp_Spend___init__ K (.ref x :: [h, c, n]) (upd (upd H dx (.own x)) x (.ins (He.ga K "Spend") dx [])) (fun v H2 => v = .non ∧ Q (.ref x) H2) E := by
  intro x dx nx nd ne
  have s0 : Same H (upd (upd H dx (.own x)) x (.ins (He.ga K "Spend") dx [])) := (Same.new nd).mut nx
  refine ⟨x, dx, h, c, n, rfl, upd_same, yh.same s0, yc.same s0, yn.same s0, fun h => ⟨rfl, k1 h x dx _ nx (s0.mut nx) upd_same⟩, fun h H' s' => k2 h H' (s0.trans s')⟩

theorem mk_Promise {r h c n : V} {H : Hp} {Q : VK} {E : XK} (yr : Knd K H r) (yh : Knd K H h) (yc : Knd K H c) (yn : Knd K H n) (k1 : okPromiseB r h c n = true → ∀ x dx H2, H x = none → Same H H2 → H2 x = some (.ins (He.ga K "Promise") dx (fsPromise r h c n)) → Q (.ref x) H2)
    (k2 : okPromiseB r h c n = false → ∀ H', Same H H' → E (.ref (He.ga K "NoEntry")) none H') : ∀ x dx, H x = none → H dx = none → dx ≠ x → sp_Promise___init__ K (.ref x :: [r, h, c, n]) (upd (upd H dx (.own x)) x (.ins (He.ga K "Promise") dx [])) (fun v H2 => v = .non ∧ Q (.ref x) H2) E := by
  intro x dx nx nd ne
  have s0 : Same H (upd (upd H dx (.own x)) x (.ins (He.ga K "Promise") dx [])) := (Same.new nd).mut nx
  refine ⟨x, dx, r, h, c, n, rfl, upd_same, yr.same s0, yh.same s0, yc.same s0, yn.same s0, fun h => ⟨rfl, k1 h x dx _ nx (s0.mut nx) upd_same⟩, fun h H' s' => k2 h H' (s0.trans s')⟩

theorem mk_Lessen {r c n : V} {H : Hp} {Q : VK} {E : XK} (yr : Knd K H r) (yc : Knd K H c) (yn : Knd K H n) (k1 : okLessenB r c n = true → ∀ x dx H2, H x = none → Same H H2 → H2 x = some (.ins (He.ga K "Lessen") dx (fsLessen r c n)) → Q (.ref x) H2)
    (k2 : okLessenB r c n = false → ∀ H', Same H H' → E (.ref (He.ga K "NoEntry")) none H') : ∀ x dx, H x = none → H dx = none → dx ≠ x → sp_Lessen___init__ K (.ref x :: [r, c, n]) (upd (upd H dx (.own x)) x (.ins (He.ga K "Lessen") dx [])) (fun v H2 => v = .non ∧ Q (.ref x) H2) E := by
  intro x dx nx nd ne
  have s0 : Same H (upd (upd H dx (.own x)) x (.ins (He.ga K "Lessen") dx [])) := (Same.new nd).mut nx
  refine ⟨x, dx, r, c, n, rfl, upd_same, yr.same s0, yc.same s0, yn.same s0, fun h => ⟨rfl, k1 h x dx _ nx (s0.mut nx) upd_same⟩, fun h H' s' => k2 h H' (s0.trans s')⟩

theorem mk_Out {r c n : V} {H : Hp} {Q : VK} {E : XK} (yr : Knd K H r) (yc : Knd K H c) (yn : Knd K H n) (k1 : okOutB r c n = true → ∀ x dx H2, H x = none → Same H H2 → H2 x = some (.ins (He.ga K "Out") dx (fsOut r c n)) → Q (.ref x) H2)
    (k2 : okOutB r c n = false → ∀ H', Same H H' → E (.ref (He.ga K "NoEntry")) none H') : ∀ x dx, H x = none → H dx = none → dx ≠ x → sp_Out___init__ K (.ref x :: [r, c, n]) (upd (upd H dx (.own x)) x (.ins (He.ga K "Out") dx [])) (fun v H2 => v = .non ∧ Q (.ref x) H2) E := by
  intro x dx nx nd ne
  have s0 : Same H (upd (upd H dx (.own x)) x (.ins (He.ga K "Out") dx [])) := (Same.new nd).mut nx
  refine ⟨x, dx, r, c, n, rfl, upd_same, yr.same s0, yc.same s0, yn.same s0, fun h => ⟨rfl, k1 h x dx _ nx (s0.mut nx) upd_same⟩, fun h H' s' => k2 h H' (s0.trans s')⟩

abbrev SZ : List (Str × V) := [("give", .int 4), ("hold", .int 5), ("move", .int 5), ("spend", .int 4), ("promise", .int 5), ("lessen", .int 4), ("out", .int 4)]
def szOf (w : Str) : Int := if w = "give" then 4 else if w = "hold" then 5 else if w = "move" then 5 else if w = "spend" then 4 else if w = "promise" then 5 else if w = "lessen" then 4 else if w = "out" then 4 else 0
theorem szOf_is (w : Str) : ((SZ.lookup w).getD (.int 0)) = V.int (szOf w) := by
  unfold szOf
  simp only [SZ, List.lookup_cons, List.lookup_nil]
  by_cases h0 : w = "give"
  · subst h0
    rfl
  rw [if_neg h0, show (w == ("give" : Str)) = false from by simpa using h0]
  dsimp only
  by_cases h1 : w = "hold"
  · subst h1
    rfl
  rw [if_neg h1, show (w == ("hold" : Str)) = false from by simpa using h1]
  dsimp only
  by_cases h2 : w = "move"
  · subst h2
    rfl
  rw [if_neg h2, show (w == ("move" : Str)) = false from by simpa using h2]
  dsimp only
  by_cases h3 : w = "spend"
  · subst h3
    rfl
  rw [if_neg h3, show (w == ("spend" : Str)) = false from by simpa using h3]
  dsimp only
  by_cases h4 : w = "promise"
  · subst h4
    rfl
  rw [if_neg h4, show (w == ("promise" : Str)) = false from by simpa using h4]
  dsimp only
  by_cases h5 : w = "lessen"
  · subst h5
    rfl
  rw [if_neg h5, show (w == ("lessen" : Str)) = false from by simpa using h5]
  dsimp only
  by_cases h6 : w = "out"
  · subst h6
    rfl
  rw [if_neg h6, show (w == ("out" : Str)) = false from by simpa using h6]
  dsimp only
  rfl

def entOf : List V → Option (Str × List (Str × V))
  | .str w :: args =>
    if w = "give" then (match args with | [h, c, n] => if okGiveB h c n = true then some ("Give", fsGive h c n) else none | _ => none)
    else if w = "hold" then (match args with | [h, c, u, n] => if okHoldB h c u n = true then some ("Hold", fsHold h c u n) else none | _ => none)
    else if w = "move" then (match args with | [h, o, c, n] => if okMoveB h o c n = true then some ("Move", fsMove h o c n) else none | _ => none)
    else if w = "spend" then (match args with | [h, c, n] => if okSpendB h c n = true then some ("Spend", fsSpend h c n) else none | _ => none)
    else if w = "promise" then (match args with | [r, h, c, n] => if okPromiseB r h c n = true then some ("Promise", fsPromise r h c n) else none | _ => none)
    else if w = "lessen" then (match args with | [r, c, n] => if okLessenB r c n = true then some ("Lessen", fsLessen r c n) else none | _ => none)
    else if w = "out" then (match args with | [r, c, n] => if okOutB r c n = true then some ("Out", fsOut r c n) else none | _ => none)
    else none
  | _ => none

def sp_read_entry (K : PySem.W.Frag) : Sp := fun vs H Q E => ∃ x T, vs = [x] ∧ TyX K H x T ∧ ((PySem.W.kitOne K T (.type "tuple") = some false ∧ ∀ H', Same H H' → E (.ref (He.ga K "NoEntry")) none H') ∨
  (∃ t xs, x = .ref t ∧ SqT K H t xs ∧ PySem.W.kitOne K T (.type "tuple") = some true ∧ (∀ y ∈ xs, Knd K H y) ∧
    (∀ C fs, entOf xs = some (C, fs) → ∀ e dx H2, H e = none → Same H H2 → H2 e = some (.ins (He.ga K C) dx fs) → Q (.ref e) H2) ∧ (entOf xs = none → ∀ H', Same H H' → E (.ref (He.ga K "NoEntry")) none H')))
theorem len3 {α : Type} {l : List α} (h : l.length = 3) : ∃ a b c, l = [a, b, c] := by
  match l, h with
  | [a, b, c], _ => exact ⟨a, b, c, rfl⟩
theorem len4 {α : Type} {l : List α} (h : l.length = 4) : ∃ a b c d, l = [a, b, c, d] := by
  match l, h with
  | [a, b, c, d], _ => exact ⟨a, b, c, d, rfl⟩
theorem atT {y : V} {l : List V} {i : Nat} (h : l[i]? = some y) : atI l (i : Int) = some y := atI_nat h

theorem entOf_len {w : Str} {args : List V} (h : ¬ ((args.length : Int) + 1 = szOf w)) : entOf (.str w :: args) = none := by
  unfold szOf at h
  unfold entOf
  dsimp only
  by_cases h0 : w = "give"
  · rw [if_pos h0] at h
    rw [if_pos h0]
    split
    · exact (h rfl).elim
    · rfl
  rw [if_neg h0] at h
  rw [if_neg h0]
  by_cases h1 : w = "hold"
  · rw [if_pos h1] at h
    rw [if_pos h1]
    split
    · exact (h rfl).elim
    · rfl
  rw [if_neg h1] at h
  rw [if_neg h1]
  by_cases h2 : w = "move"
  · rw [if_pos h2] at h
    rw [if_pos h2]
    split
    · exact (h rfl).elim
    · rfl
  rw [if_neg h2] at h
  rw [if_neg h2]
  by_cases h3 : w = "spend"
  · rw [if_pos h3] at h
    rw [if_pos h3]
    split
    · exact (h rfl).elim
    · rfl
  rw [if_neg h3] at h
  rw [if_neg h3]
  by_cases h4 : w = "promise"
  · rw [if_pos h4] at h
    rw [if_pos h4]
    split
    · exact (h rfl).elim
    · rfl
  rw [if_neg h4] at h
  rw [if_neg h4]
  by_cases h5 : w = "lessen"
  · rw [if_pos h5] at h
    rw [if_pos h5]
    split
    · exact (h rfl).elim
    · rfl
  rw [if_neg h5] at h
  rw [if_neg h5]
  by_cases h6 : w = "out"
  · rw [if_pos h6] at h
    rw [if_pos h6]
    split
    · exact (h rfl).elim
    · rfl
  rw [if_neg h6] at h
  rw [if_neg h6]

theorem ok_read_entry (T : Tx P w K mg base) : DefOk P w K mg base 6 ("read_entry", none) ["told"] (sp_read_entry K) := by
  refine mkOk T.f_read_entry sc_read_entry (fun vs H Q E h => ?_) (fun _ _ _ _ _ _ us hl => match us, hl with | [_], _ => rfl) (fun cdv A outer s H vs Q E hr h => ?_)
  · obtain ⟨x, T0, rfl, tx, hx⟩ := h
    rfl
  · obtain ⟨x, T0, rfl, tx, hx⟩ := h
    refine ⟨_, (pss_cons (ps_expr (kc (ok_check (K := K) T) T.g_check (hr.mono (by decide)) pB (pa_cons (pe_and (pe_callB (isiK K rfl) rfl T.n_isinstance (by decide +kernel) (pa_cons (pv 0) (pa_cons (kbT (n := "tuple") T.n_tuple (by decide +kernel)) pa_nil))) (pe_and (pe_cmpR kGt (pe_callB (lenK K rfl) rfl T.n_len (by decide +kernel) (pa_cons (pv 0) pa_nil)) pe_int (nomark _)) (pe_one (pe_callB (isiK K rfl) rfl T.n_isinstance (by decide +kernel) (pa_cons (pe_ix (ixK K rfl) (pv 0) pe_int (fun _ _ => rfl)) (pa_cons (kbT (n := "str") T.n_str (by decide +kernel)) pa_nil)))))) pa_nil)))
      (pss_cons (ps_expr (kc (ok_check (K := K) T) T.g_check (hr.mono (by decide)) pB (pa_cons (pe_cmpR (eqK K rfl hr) (pe_callB (lenK K rfl) rfl T.n_len (by decide +kernel) (pa_cons (pv 0) pa_nil)) (kKGet T.d_SIZES (kgR T.g_SIZES) (pe_ix (ixK K rfl) (pv 0) pe_int (fun _ _ => rfl)) pe_int) (nomark _)) pa_nil)))
      (pss_cons (ps_if (pt_cmpR (eqK K rfl hr) (pe_ix (ixK K rfl) (pv 0) pe_int (fun _ _ => rfl)) pe_str (nomark _)) (pss_one (ps_ret (kmk (ik := "") T.mk_Give (ok_Give___init__ (K := K) T) T.g_Give (hr.mono (by decide)) pB (pa_cons (pe_ix (ixK K rfl) (pv 0) pe_int (fun _ _ => rfl)) (pa_cons (pe_ix (ixK K rfl) (pv 0) pe_int (fun _ _ => rfl)) (pa_cons (pe_ix (ixK K rfl) (pv 0) pe_int (fun _ _ => rfl)) pa_nil)))))) pss_nil)
      (pss_cons (ps_if (pt_cmpR (eqK K rfl hr) (pe_ix (ixK K rfl) (pv 0) pe_int (fun _ _ => rfl)) pe_str (nomark _)) (pss_one (ps_ret (kmk (ik := "") T.mk_Hold (ok_Hold___init__ (K := K) T) T.g_Hold (hr.mono (by decide)) pB (pa_cons (pe_ix (ixK K rfl) (pv 0) pe_int (fun _ _ => rfl)) (pa_cons (pe_ix (ixK K rfl) (pv 0) pe_int (fun _ _ => rfl)) (pa_cons (pe_ix (ixK K rfl) (pv 0) pe_int (fun _ _ => rfl)) (pa_cons (pe_ix (ixK K rfl) (pv 0) pe_int (fun _ _ => rfl)) pa_nil))))))) pss_nil)
      (pss_cons (ps_if (pt_cmpR (eqK K rfl hr) (pe_ix (ixK K rfl) (pv 0) pe_int (fun _ _ => rfl)) pe_str (nomark _)) (pss_one (ps_ret (kmk (ik := "") T.mk_Move (ok_Move___init__ (K := K) T) T.g_Move (hr.mono (by decide)) pB (pa_cons (pe_ix (ixK K rfl) (pv 0) pe_int (fun _ _ => rfl)) (pa_cons (pe_ix (ixK K rfl) (pv 0) pe_int (fun _ _ => rfl)) (pa_cons (pe_ix (ixK K rfl) (pv 0) pe_int (fun _ _ => rfl)) (pa_cons (pe_ix (ixK K rfl) (pv 0) pe_int (fun _ _ => rfl)) pa_nil))))))) pss_nil)
      (pss_cons (ps_if (pt_cmpR (eqK K rfl hr) (pe_ix (ixK K rfl) (pv 0) pe_int (fun _ _ => rfl)) pe_str (nomark _)) (pss_one (ps_ret (kmk (ik := "") T.mk_Spend (ok_Spend___init__ (K := K) T) T.g_Spend (hr.mono (by decide)) pB (pa_cons (pe_ix (ixK K rfl) (pv 0) pe_int (fun _ _ => rfl)) (pa_cons (pe_ix (ixK K rfl) (pv 0) pe_int (fun _ _ => rfl)) (pa_cons (pe_ix (ixK K rfl) (pv 0) pe_int (fun _ _ => rfl)) pa_nil)))))) pss_nil)
      (pss_cons (ps_if (pt_cmpR (eqK K rfl hr) (pe_ix (ixK K rfl) (pv 0) pe_int (fun _ _ => rfl)) pe_str (nomark _)) (pss_one (ps_ret (kmk (ik := "") T.mk_Promise (ok_Promise___init__ (K := K) T) T.g_Promise (hr.mono (by decide)) pB (pa_cons (pe_ix (ixK K rfl) (pv 0) pe_int (fun _ _ => rfl)) (pa_cons (pe_ix (ixK K rfl) (pv 0) pe_int (fun _ _ => rfl)) (pa_cons (pe_ix (ixK K rfl) (pv 0) pe_int (fun _ _ => rfl)) (pa_cons (pe_ix (ixK K rfl) (pv 0) pe_int (fun _ _ => rfl)) pa_nil))))))) pss_nil)
      (pss_cons (ps_if (pt_cmpR (eqK K rfl hr) (pe_ix (ixK K rfl) (pv 0) pe_int (fun _ _ => rfl)) pe_str (nomark _)) (pss_one (ps_ret (kmk (ik := "") T.mk_Lessen (ok_Lessen___init__ (K := K) T) T.g_Lessen (hr.mono (by decide)) pB (pa_cons (pe_ix (ixK K rfl) (pv 0) pe_int (fun _ _ => rfl)) (pa_cons (pe_ix (ixK K rfl) (pv 0) pe_int (fun _ _ => rfl)) (pa_cons (pe_ix (ixK K rfl) (pv 0) pe_int (fun _ _ => rfl)) pa_nil)))))) pss_nil)
      (pss_one (ps_ret (kmk (ik := "") T.mk_Out (ok_Out___init__ (K := K) T) T.g_Out (hr.mono (by decide)) pB (pa_cons (pe_ix (ixK K rfl) (pv 0) pe_int (fun _ _ => rfl)) (pa_cons (pe_ix (ixK K rfl) (pv 0) pe_int (fun _ _ => rfl)) (pa_cons (pe_ix (ixK K rfl) (pv 0) pe_int (fun _ _ => rfl)) pa_nil)))))))))))))), ?_⟩
    walk_at "go"
    rcases hx with ⟨kt, k⟩ | ⟨t, xs, rfl, ht, kt, hk, k1, k2⟩
    · refine v_isi tx kt ?_
      walk_at "go"
      exact ⟨false, rfl, (fun z => nomatch z), fun _ H' s' => k H' s'⟩
    refine v_isi tx kt ?_
    walk_at "go"
    refine v_lenT ht ?_
    walk_at "go"
    match xs with
    | [] =>
      rw [show decide ((0 : Int) < (([] : List V).length : Int)) = false from by decide]
      walk_at "go"
      exact ⟨false, rfl, (fun z => nomatch z), fun _ H' s' => k2 rfl H' s'⟩
    | w0 :: args =>
      rw [show decide ((0 : Int) < ((w0 :: args).length : Int)) = true from decide_eq_true (by rw [List.length_cons]; omega)]
      walk_at "go"
      refine v_ixT ht (atI_zero) ?_
      walk_at "go"
      obtain ⟨⟨T1, t0, h0, _, _⟩, hl0⟩ := hk w0 (List.mem_cons_self ..)
      refine v_isi t0 h0 ?_
      cases w0 with
      | str w =>
        refine ⟨true, rfl, fun _ => ?_, (fun z => nomatch z)⟩
        walk_at "go"
        refine v_lenT ht ?_
        walk_at "go"
        refine ⟨rfl, ?_⟩
        walk_at "go"
        refine v_ixT ht (atI_zero) ?_
        walk_at "go"
        have e0 := szOf_is w
        dsimp only [SZ] at e0
        rw [e0]
        walk_at "go"
        by_cases hz : (((V.str w :: args).length : Nat) : Int) = szOf w
        case neg =>
          rw [decide_eq_false hz]
          exact ⟨false, rfl, (fun z => nomatch z), fun _ H' s' => k2 (entOf_len (by simpa using hz)) H' s'⟩
        rw [decide_eq_true hz]
        refine ⟨true, rfl, fun _ => ?_, (fun z => nomatch z)⟩
        walk_at "go"
        have hz2 : (args.length : Int) + 1 = szOf w := by simpa using hz
        refine v_ixT ht (atI_zero) ?_
        walk_at "go"
        by_cases h0 : w = "give"
        case pos =>
          rw [decide_eq_true h0]
          subst h0
          have hn : args.length = 3 := by
            have : szOf "give" = 4 := by decide +kernel
            omega
          obtain ⟨h, c, n, rfl⟩ := len3 hn
          have ee : entOf [.str "give", h, c, n] = if okGiveB h c n = true then some (("Give" : Str), fsGive h c n) else none := by first | rfl | decide +kernel | simp [entOf]
          walk_at "go"
          refine v_ixT ht (atI_nat (j := 1) rfl) ?_
          walk_at "go"
          refine v_ixT ht (atI_nat (j := 2) rfl) ?_
          walk_at "go"
          refine v_ixT ht (atI_nat (j := 3) rfl) ?_
          walk_at "go"
          exact mk_Give (hk _ (by simp)) (hk _ (by simp)) (hk _ (by simp)) (fun hb x dx H2 h1 h2 h3 => k1 _ _ (by rw [ee, if_pos hb]) x dx H2 h1 h2 h3) (fun hb H' s' => k2 (by rw [ee, hb]; rfl) H' s')
        rw [decide_eq_false h0]
        walk_at "go"
        refine v_ixT ht (atI_zero) ?_
        walk_at "go"
        by_cases h1 : w = "hold"
        case pos =>
          rw [decide_eq_true h1]
          subst h1
          have hn : args.length = 4 := by
            have : szOf "hold" = 5 := by decide +kernel
            omega
          obtain ⟨h, c, u, n, rfl⟩ := len4 hn
          have ee : entOf [.str "hold", h, c, u, n] = if okHoldB h c u n = true then some (("Hold" : Str), fsHold h c u n) else none := by first | rfl | decide +kernel | simp [entOf]
          walk_at "go"
          refine v_ixT ht (atI_nat (j := 1) rfl) ?_
          walk_at "go"
          refine v_ixT ht (atI_nat (j := 2) rfl) ?_
          walk_at "go"
          refine v_ixT ht (atI_nat (j := 3) rfl) ?_
          walk_at "go"
          refine v_ixT ht (atI_nat (j := 4) rfl) ?_
          walk_at "go"
          exact mk_Hold (hk _ (by simp)) (hk _ (by simp)) (hk _ (by simp)) (hk _ (by simp)) (fun hb x dx H2 h1 h2 h3 => k1 _ _ (by rw [ee, if_pos hb]) x dx H2 h1 h2 h3) (fun hb H' s' => k2 (by rw [ee, hb]; rfl) H' s')
        rw [decide_eq_false h1]
        walk_at "go"
        refine v_ixT ht (atI_zero) ?_
        walk_at "go"
        by_cases h2 : w = "move"
        case pos =>
          rw [decide_eq_true h2]
          subst h2
          have hn : args.length = 4 := by
            have : szOf "move" = 5 := by decide +kernel
            omega
          obtain ⟨h, o, c, n, rfl⟩ := len4 hn
          have ee : entOf [.str "move", h, o, c, n] = if okMoveB h o c n = true then some (("Move" : Str), fsMove h o c n) else none := by first | rfl | decide +kernel | simp [entOf]
          walk_at "go"
          refine v_ixT ht (atI_nat (j := 1) rfl) ?_
          walk_at "go"
          refine v_ixT ht (atI_nat (j := 2) rfl) ?_
          walk_at "go"
          refine v_ixT ht (atI_nat (j := 3) rfl) ?_
          walk_at "go"
          refine v_ixT ht (atI_nat (j := 4) rfl) ?_
          walk_at "go"
          exact mk_Move (hk _ (by simp)) (hk _ (by simp)) (hk _ (by simp)) (hk _ (by simp)) (fun hb x dx H2 h1 h2 h3 => k1 _ _ (by rw [ee, if_pos hb]) x dx H2 h1 h2 h3) (fun hb H' s' => k2 (by rw [ee, hb]; rfl) H' s')
        rw [decide_eq_false h2]
        walk_at "go"
        refine v_ixT ht (atI_zero) ?_
        walk_at "go"
        by_cases h3 : w = "spend"
        case pos =>
          rw [decide_eq_true h3]
          subst h3
          have hn : args.length = 3 := by
            have : szOf "spend" = 4 := by decide +kernel
            omega
          obtain ⟨h, c, n, rfl⟩ := len3 hn
          have ee : entOf [.str "spend", h, c, n] = if okSpendB h c n = true then some (("Spend" : Str), fsSpend h c n) else none := by first | rfl | decide +kernel | simp [entOf]
          walk_at "go"
          refine v_ixT ht (atI_nat (j := 1) rfl) ?_
          walk_at "go"
          refine v_ixT ht (atI_nat (j := 2) rfl) ?_
          walk_at "go"
          refine v_ixT ht (atI_nat (j := 3) rfl) ?_
          walk_at "go"
          exact mk_Spend (hk _ (by simp)) (hk _ (by simp)) (hk _ (by simp)) (fun hb x dx H2 h1 h2 h3 => k1 _ _ (by rw [ee, if_pos hb]) x dx H2 h1 h2 h3) (fun hb H' s' => k2 (by rw [ee, hb]; rfl) H' s')
        rw [decide_eq_false h3]
        walk_at "go"
        refine v_ixT ht (atI_zero) ?_
        walk_at "go"
        by_cases h4 : w = "promise"
        case pos =>
          rw [decide_eq_true h4]
          subst h4
          have hn : args.length = 4 := by
            have : szOf "promise" = 5 := by decide +kernel
            omega
          obtain ⟨r, h, c, n, rfl⟩ := len4 hn
          have ee : entOf [.str "promise", r, h, c, n] = if okPromiseB r h c n = true then some (("Promise" : Str), fsPromise r h c n) else none := by first | rfl | decide +kernel | simp [entOf]
          walk_at "go"
          refine v_ixT ht (atI_nat (j := 1) rfl) ?_
          walk_at "go"
          refine v_ixT ht (atI_nat (j := 2) rfl) ?_
          walk_at "go"
          refine v_ixT ht (atI_nat (j := 3) rfl) ?_
          walk_at "go"
          refine v_ixT ht (atI_nat (j := 4) rfl) ?_
          walk_at "go"
          exact mk_Promise (hk _ (by simp)) (hk _ (by simp)) (hk _ (by simp)) (hk _ (by simp)) (fun hb x dx H2 h1 h2 h3 => k1 _ _ (by rw [ee, if_pos hb]) x dx H2 h1 h2 h3) (fun hb H' s' => k2 (by rw [ee, hb]; rfl) H' s')
        rw [decide_eq_false h4]
        walk_at "go"
        refine v_ixT ht (atI_zero) ?_
        walk_at "go"
        by_cases h5 : w = "lessen"
        case pos =>
          rw [decide_eq_true h5]
          subst h5
          have hn : args.length = 3 := by
            have : szOf "lessen" = 4 := by decide +kernel
            omega
          obtain ⟨r, c, n, rfl⟩ := len3 hn
          have ee : entOf [.str "lessen", r, c, n] = if okLessenB r c n = true then some (("Lessen" : Str), fsLessen r c n) else none := by first | rfl | decide +kernel | simp [entOf]
          walk_at "go"
          refine v_ixT ht (atI_nat (j := 1) rfl) ?_
          walk_at "go"
          refine v_ixT ht (atI_nat (j := 2) rfl) ?_
          walk_at "go"
          refine v_ixT ht (atI_nat (j := 3) rfl) ?_
          walk_at "go"
          exact mk_Lessen (hk _ (by simp)) (hk _ (by simp)) (hk _ (by simp)) (fun hb x dx H2 h1 h2 h3 => k1 _ _ (by rw [ee, if_pos hb]) x dx H2 h1 h2 h3) (fun hb H' s' => k2 (by rw [ee, hb]; rfl) H' s')
        rw [decide_eq_false h5]
        walk_at "go"
        have h6 : w = "out" := by
          by_cases h6 : w = "out"
          · exact h6
          · unfold szOf at hz2
            rw [if_neg h0, if_neg h1, if_neg h2, if_neg h3, if_neg h4, if_neg h5, if_neg h6] at hz2
            omega
        subst h6
        have hn : args.length = 3 := by
          have : szOf "out" = 4 := by decide +kernel
          omega
        obtain ⟨r, c, n, rfl⟩ := len3 hn
        have ee : entOf [.str "out", r, c, n] = if okOutB r c n = true then some (("Out" : Str), fsOut r c n) else none := by first | rfl | decide +kernel | simp [entOf]
        walk_at "go"
        refine v_ixT ht (atI_nat (j := 1) rfl) ?_
        walk_at "go"
        refine v_ixT ht (atI_nat (j := 2) rfl) ?_
        walk_at "go"
        refine v_ixT ht (atI_nat (j := 3) rfl) ?_
        walk_at "go"
        exact mk_Out (hk _ (by simp)) (hk _ (by simp)) (hk _ (by simp)) (fun hb x dx H2 h1 h2 h3 => k1 _ _ (by rw [ee, if_pos hb]) x dx H2 h1 h2 h3) (fun hb H' s' => k2 (by rw [ee, hb]; rfl) H' s')
      | _ => exact ⟨false, rfl, (fun z => nomatch z), fun _ H' s' => k2 rfl H' s'⟩
end
end Kn

set_option Elab.async false
set_option linter.all false
set_option maxRecDepth 100000
set_option maxHeartbeats 4000000
namespace Kn
open PySem PySem.Spec PyProof.Rows L2
local macro_rules | `(tactic| walk_at "go1") => `(tactic| first
  | with_reducible refine s_seq ?_
  | with_reducible refine s_var rfl ?_
  | with_reducible refine s_c ?_
  | with_reducible refine s_cons ?_
  | with_reducible refine s_nil ?_
  | with_reducible refine s_asg ?_
  | with_reducible refine s_name ?_
  | with_reducible refine s_op ?_
  | with_reducible refine s_call ?_
  | with_reducible refine s_cb ?_
  | with_reducible refine s_ret ?_
  | with_reducible refine s_drop ?_
  | with_reducible refine s_next ?_
  | with_reducible refine s_ifs ?_
  | with_reducible refine s_test ?_
  | with_reducible refine s_tB ?_
  | with_reducible refine s_blP ?_
  | with_reducible refine s_intP ?_
  | with_reducible refine iteT ?_
  | with_reducible refine iteF ?_
  | with_reducible refine ite_not ?_
  | with_reducible refine s_and ?_
  | with_reducible refine s_or ?_
  | with_reducible refine s_not ?_
  | with_reducible refine s_andV ?_
  | with_reducible refine s_orV ?_
  | with_reducible refine s_notV ?_
  | with_reducible refine s_chain ?_
  | with_reducible refine s_sub ?_
  | with_reducible refine s_bm ?_
  | with_reducible refine s_sl ?_
  | with_reducible refine s_part ?_
  | with_reducible refine s_nop ?_
  | with_reducible refine s_make ?_
  | with_reducible refine s_un ?_
  | with_reducible refine s_ifE ?_
  | with_reducible refine s_gcons ?_
  | with_reducible refine s_gnil ?_
  | with_reducible refine s_meth ?_
  | with_reducible refine s_rev ?_
  | with_reducible refine s_lc ?_
  | with_reducible refine s_rng1 ?_
  | with_reducible refine s_ilst ?_
  | with_reducible refine s_istr ?_
  | with_reducible refine s_for ?_
  | with_reducible refine s_yes ?_
  | with_reducible refine s_wipe rfl ?_
  | with_reducible refine s_kget ?_
  | with_reducible refine s_strP ?_
  | with_reducible refine s_fldS ?_
  | with_reducible refine s_fld ?_
  | with_reducible refine s_tup ?_
  | with_reducible refine s_lst ?_
  | with_reducible refine v_addI ?_
  | with_reducible refine v_subI ?_
  | with_reducible refine v_lt ?_
  | with_reducible refine v_le ?_
  | with_reducible refine v_gt ?_
  | with_reducible refine v_ge ?_
  | with_reducible refine v_eqI ?_
  | with_reducible refine v_eqS ?_
  | with_reducible refine v_neS ?_
  | with_reducible refine v_neI ?_)
local macro_rules | `(tactic| walk_at "go") => `(tactic| repeat walk_at "go1")

section
variable {w : World} {P : Program} {mg : Str → Option Value} {K : PySem.W.Frag} {base : Heap}
def sp_Lwell (K : PySem.W.Frag) : Sp := fun vs H Q _ => ∃ z : Int, vs = [.int z] ∧ ∀ p H', H p = none → Same H H' → WellAt H' p → Q (.ref p) H'
def sp_Ldraw (K : PySem.W.Frag) : Sp := fun vs H Q _ => ∃ (w : Addr) (n : Int), vs = [.ref w, .int n] ∧ WellAt H w ∧ 0 < n ∧ n < 2 ^ 100 ∧ ∀ r H', 0 ≤ r → r < n → Dr w H H' → Q (.int r) H'
theorem div_ok {n : Int} (h0 : 0 < n) (h : n < 2 ^ 100) : CDivW 0 n := wide_div (b := 100) h0 (by omega) (by decide) (by decide)

theorem ok_Lwell (T : Tx P w K mg base) : DefOk P w K mg base 1 ("_law_well", none) ["_law_cell"] (sp_Lwell K) := by
  refine mkOk T.f_Lwell sc_Lwell (fun vs H Q E h => ?_) (fun _ _ _ _ _ _ us hl => match us, hl with | [_], _ => rfl) (fun cdv A outer s H vs Q E hr h => ?_)
  · obtain ⟨z, rfl, k⟩ := h
    rfl
  · obtain ⟨z, rfl, k⟩ := h
    refine ⟨_, (pss_one (ps_ret (pe_lst (pa_cons (pe_op kMul (pv 0) (pe_callTy kInt1 rfl T.n_int (by decide +kernel) (pa_cons (pe_cmpR kGe (pv 0) (pe_op kPow pe_int pe_int) (nomark _)) pa_nil))) (pa_cons (pe_op kMod (pv 0) pe_int) (pa_cons pe_int pa_nil)))))), ?_⟩
    walk_at "go"
    refine v_powI ⟨by decide, by decide, by decide⟩ ?_
    walk_at "go"
    refine v_int1b ?_
    walk_at "go"
    refine v_mulI (.inr (by split <;> decide)) ?_
    walk_at "go"
    refine v_modI (by decide) ?_
    walk_at "go"
    exact ⟨by show 3 ≤ sizeLine; decide, fun p hp => k p _ hp (Same.new hp) ⟨_, _, _, upd_same⟩⟩

theorem m31 (x : Int) : -(2 ^ 64) < x.fmod 2147483647 ∧ x.fmod 2147483647 < 2 ^ 64 := by
  have := fmod_lt (a := x) (n := 2147483647) (by decide)
  omega
theorem ok_Ldraw (T : Tx P w K mg base) : DefOk P w K mg base 1 ("_law_draw", none) ["_law_well_here", "_law_many"] (sp_Ldraw K) := by
  refine mkOk T.f_Ldraw sc_Ldraw (fun vs H Q E h => ?_) (fun _ _ _ _ _ _ us hl => match us, hl with | [_, _], _ => rfl) (fun cdv A outer s H vs Q E hr h => ?_)
  · obtain ⟨w0, n, rfl, ⟨a, b, c, hw⟩, hn, hb, k⟩ := h
    rfl
  · obtain ⟨w0, n, rfl, ⟨a, b, c, hw⟩, hn, hb, k⟩ := h
    refine ⟨_, (pss_cons (ps_if (pt_cmpR kGt (pe_ix (ixK K rfl) (pv 0) pe_int (fun _ _ => rfl)) pe_int (nomark _)) (pss_cons (ps_set (i := 2) sc_Ldraw.nd rfl (Or.inl rfl) (pe_op kMod (pe_ix (ixK K rfl) (pv 0) pe_int (fun _ _ => rfl)) (pv 1)))
      (pss_cons (ps_asg (pe_op kDiv (pe_ix (ixK K rfl) (pv 0) pe_int (fun _ _ => rfl)) (pv 1)) (pg_sub (pv 0) pe_int set_list))
      (pss_one (ps_ret (pv 2))))) pss_nil)
      (pss_cons (ps_asg (pe_op kAdd (pe_ix (ixK K rfl) (pv 0) pe_int (fun _ _ => rfl)) pe_int) (pg_sub (pv 0) pe_int set_list))
      (pss_cons (ps_set (i := 3) sc_Ldraw.nd rfl (Or.inl rfl) (pe_op kMod (pe_op kMul (pe_op kAdd (pe_op kAdd (pe_ix (ixK K rfl) (pv 0) pe_int (fun _ _ => rfl)) (pe_op kMul pe_int (pe_ix (ixK K rfl) (pv 0) pe_int (fun _ _ => rfl)))) pe_int) pe_int) pe_int))
      (pss_cons (ps_set (i := 3) sc_Ldraw.nd rfl (Or.inl rfl) (pe_op kMod (pe_op kMul (pv 3) (pe_op kAdd (pe_op kDiv (pv 3) pe_int) pe_int)) pe_int))
      (pss_one (ps_ret (pe_op kMod (pe_op kMod (pe_op kMul (pv 3) (pe_op kAdd (pe_op kDiv (pv 3) pe_int) pe_int)) pe_int) (pv 1)))))))), ?_⟩
    have hw2 : WellAt H w0 := ⟨a, b, c, hw⟩
    have hd := div_ok hn hb
    walk_at "go"
    refine v_ixL (SqL.of hw) (atI_nat (j := 0) rfl) ?_
    walk_at "go"
    by_cases h : 0 < a
    · rw [decide_eq_true h]
      walk_at "go"
      refine v_ixL (SqL.of hw) (atI_nat (j := 0) rfl) ?_
      walk_at "go"
      refine v_modI (by omega) ?_
      walk_at "go"
      refine v_ixL (SqL.of hw) (atI_nat (j := 0) rfl) ?_
      walk_at "go"
      refine v_divI hd ?_
      walk_at "go"
      refine v_set hw (j := 0) rfl ?_
      walk_at "go"
      exact k _ _ (fmod_lt hn).1 (fmod_lt hn).2 ⟨But.upd, _, _, _, upd_same⟩
    · rw [decide_eq_false h]
      walk_at "go"
      refine v_ixL (SqL.of hw) (atI_nat (j := 2) rfl) ?_
      walk_at "go"
      refine v_set hw (j := 2) rfl ?_
      walk_at "go"
      refine v_ixL (SqL.of upd_same) (atI_nat (j := 1) rfl) ?_
      walk_at "go"
      refine v_ixL (SqL.of upd_same) (atI_nat (j := 2) rfl) ?_
      walk_at "go"
      refine v_mulI (.inl (by decide)) ?_
      walk_at "go"
      refine v_mulI (.inr (by decide)) ?_
      walk_at "go"
      refine v_modI (by decide) ?_
      walk_at "go"
      refine v_divI ⟨by decide, by decide⟩ ?_
      walk_at "go"
      refine v_mulI (.inl (m31 _)) ?_
      walk_at "go"
      refine v_modI (by decide) ?_
      walk_at "go"
      refine v_divI ⟨by decide, by decide⟩ ?_
      walk_at "go"
      refine v_mulI (.inl (m31 _)) ?_
      walk_at "go"
      refine v_modI (by decide) ?_
      walk_at "go"
      refine v_modI (by omega) ?_
      walk_at "go"
      exact k _ _ (fmod_lt hn).1 (fmod_lt hn).2 ⟨But.upd, _, _, _, upd_same⟩

theorem use_draw {w : Addr} {n : Int} {H : Hp} {Q : VK} {E : XK} (hw : WellAt H w) (hn : 0 < n) (hb : n < 2 ^ 100) (k : ∀ r H', 0 ≤ r → r < n → Dr w H H' → Q (.int r) H') : sp_Ldraw K [.ref w, .int n] H Q E := ⟨w, n, rfl, hw, hn, hb, k⟩
def sp_Lname (K : PySem.W.Frag) : Sp := fun vs H Q _ => ∃ (w : Addr), vs = [.ref w] ∧ WellAt H w ∧ ∀ s H', Nm s → Dr w H H' → Q (.str s) H'
def nmA : List Str := ["in", "year", "head", "limit", "rule", "back", "right", "give", "hold", "move", "spend", "promise"]
def nmZ : List Str := ["lessen", "out", "none", "carried"]
theorem nmAZ : ∀ s ∈ nmA ++ nmZ, Nm s := by
  have h : (nmA ++ nmZ).all nmB = true := by decide +kernel
  exact fun s hs => nm_of (List.all_eq_true.mp h s hs)
theorem sgn (i : Nat) (h : i < 26) : atI (cl LETk) (i : Int) = some (97 + i) := by
  have h2 : ∀ k : _root_.Fin 26, (cl LETk)[k.val]? = some (97 + k.val) := by decide +kernel
  exact atI_nat (h2 ⟨i, h⟩)

theorem ok_Lname (T : Tx P w K mg base) : DefOk P w K mg base 2 ("_law_name", none) ["_law_well_here"] (sp_Lname K) := by
  refine mkOk T.f_Lname sc_Lname (fun vs H Q E h => ?_) (fun _ _ _ _ _ _ us hl => match us, hl with | [_], _ => rfl) (fun cdv A outer s H vs Q E hr h => ?_)
  · obtain ⟨w0, rfl, hw, k⟩ := h
    rfl
  · obtain ⟨w0, rfl, hw, k⟩ := h
    refine ⟨_, (pss_cons (ps_if (pt_cmpR (eqK K rfl hr) (kc (ok_Ldraw (K := K) T) T.g__law_draw (hr.mono (by decide)) pB (pa_cons (pv 0) (pa_cons pe_int pa_nil))) pe_int (nomark _)) (pss_cons (ps_set (i := 1) sc_Lname.nd rfl (Or.inl rfl) (pe_lst (pa_cons pe_str (pa_cons pe_str (pa_cons pe_str (pa_cons pe_str (pa_cons pe_str (pa_cons pe_str (pa_cons pe_str (pa_cons pe_str (pa_cons pe_str (pa_cons pe_str (pa_cons pe_str (pa_cons pe_str pa_nil))))))))))))))
      (pss_one (ps_ret (pe_ix (ixK K rfl) (pe_op kAdd (pv 1) (pe_lst (pa_cons pe_str (pa_cons pe_str (pa_cons pe_str (pa_cons pe_str pa_nil)))))) (kc (ok_Ldraw (K := K) T) T.g__law_draw (hr.mono (by decide)) pB (pa_cons (pv 0) (pa_cons pe_int pa_nil))) (fun _ _ => rfl))))) pss_nil)
      (pss_cons (ps_set (i := 2) sc_Lname.nd rfl (Or.inr rfl) pe_str)
      (pss_one (ps_ret (bmK K rfl PySem.F.plainAttrs_str PySem.F.slot_str_join PySem.F.type_str_join (joinK K rfl) pe_str (pa_cons (pe_lc (own := [("_law_k", 3)]) rfl sc_Lname.nd (pi_range1 rfl T.n_range (pa_cons (pe_op kAdd pe_int (kc (ok_Ldraw (K := K) T) T.g__law_draw (hr.mono (by decide)) pB (pa_cons (pv 0) (pa_cons pe_int pa_nil)))) pa_nil)) (blkOk_by (N := nm_Lname) (sc := defScope s_Lname) (by decide +kernel)) (fun _ _ _ _ _ => (pg_name (i := 3) sc_Lname.nd rfl (Or.inl rfl))) (fun _ _ _ _ _ => pts_nil) (fun _ _ _ _ _ => (pe_ix (ixK K rfl) (pv 2) (kc (ok_Ldraw (K := K) T) T.g__law_draw (hr.mono (by decide)) passL (pa_cons (pv 0) (pa_cons pe_int pa_nil))) (fun _ _ => rfl)))) pa_nil)))))), ?_⟩
    walk_at "go"
    refine use_draw hw (by decide) (by decide) fun r H1 hr0 hr1 d1 => ?_
    walk_at "go"
    by_cases h : r = 0
    · rw [decide_eq_true h]
      walk_at "go"
      refine ⟨by show 12 ≤ sizeLine; decide, fun p1 hp1 => ?_⟩
      walk_at "go"
      refine ⟨by show 4 ≤ sizeLine; decide, fun p2 hp2 => ?_⟩
      have d2 := (d1.new (o := .lst (nmA.map V.str)) hp1)
      have d3 := d2.new (o := .lst (nmZ.map V.str)) hp2
      have np : p1 ≠ p2 := fun e => by
        rw [← e, upd_same] at hp2
        cases hp2
      refine v_addL (xs := nmA.map V.str) (zs := nmZ.map V.str) (by rw [upd_ne np]; exact upd_same) upd_same (by show 16 ≤ sizeLine; decide) fun p3 hp3 => ?_
      have d4 := d3.new (o := .lst (nmA.map V.str ++ nmZ.map V.str)) hp3
      walk_at "go"
      refine use_draw d4.well (by decide) (by decide) fun r2 H2 hr2 hr3 d5 => ?_
      obtain ⟨v, h1, h2, _⟩ := atI_lt (xs := nmA.map V.str ++ nmZ.map V.str) hr2 (by show r2 < 16; exact hr3)
      rw [← List.map_append] at h2
      obtain ⟨z, hz, rfl⟩ := List.mem_map.mp h2
      have n3 : p3 ≠ w0 := Dr.ne d3.well hp3
      refine v_ixL (SqL.of (d5.but _ _ n3 upd_same)) h1 ?_
      exact k _ _ (nmAZ z hz) (d4.trans d5)
    · rw [decide_eq_false h]
      walk_at "go"
      refine ⟨rfl, ?_⟩
      walk_at "go"
      refine use_draw d1.well (by decide) (by decide) fun r2 H2 hr2 hr3 d2 => ?_
      walk_at "go"
      have d3 := d1.trans d2
      refine ⟨_, rfl, by omega, by omega, fun D hD => lc_it walk_range (fun i H' => Dr w0 H H' ∧ ∃ cs : List Nat, H' D = some (.lst ((cs.map one).map V.str)) ∧ cs.length = i ∧ ∀ c ∈ cs, 97 ≤ c ∧ c ≤ 122) ?_ (fun _ _ _ _ => trivial) ?_ ?_⟩
      · exact ⟨d3.new hD, [], upd_same, rfl, fun c hc => nomatch hc⟩
      · rintro i x H3 H3' hi ⟨d4, cs, hl, hn, hc⟩ ⟨rfl, rfl⟩
        have nD : D ≠ w0 := Dr.ne d3.well hD
        walk_at "go"
        refine use_draw (n := 26) d4.well (by decide) (by decide) fun r3 H4 hr4 hr5 d5 => ?_
        have hs := sgn r3.toNat (by omega)
        rw [Int.toNat_of_nonneg hr4] at hs
        refine v_ixS (z := LETk) (by decide +kernel) hs ?_
        refine ⟨_, d5.but _ _ nD hl, ?_, ?_⟩
        · rw [List.length_map, List.length_map]
          exact Nat.lt_of_le_of_lt (show cs.length ≤ 100 by omega) (by decide)
        · refine ⟨(d4.trans d5).mut hw (d3.free hw hD), cs ++ [97 + r3.toNat], ?_, by rw [List.length_append, hn]; rfl, ?_⟩
          · rw [List.map_append, List.map_append]
            exact upd_same
          · intro c h2
            rcases List.mem_append.mp h2 with h2 | h2
            · exact hc c h2
            · rw [List.mem_singleton.mp h2]
              omega
      · rintro H3 ⟨d4, cs, hl, hn, hc⟩
        have hcl : cl (Txt.join "" (cs.map one)) = cs := by rw [TL.join_eq]; exact join_empty
        walk_at "go"
        refine v_joinL (SqL.of hl) ?_ ?_
        · have e1 : ((cs.map one).map (·.length)).sum = cs.length := by
            rw [List.map_map]
            clear hcl hl hn hc
            induction cs with
            | nil => rfl
            | cons a r ih =>
              rw [List.map_cons, List.sum_cons, ih, List.length_cons]
              show 1 + r.length = _
              omega
          rw [e1, List.length_map]
          show cs.length + cs.length * 0 ≤ 16777216
          omega
        · refine k _ _ ⟨?_, ?_, ?_⟩ d4
          · rw [hcl]
            intro e
            rw [e] at hn
            simp at hn
            omega
          · rw [hcl]
            omega
          · rw [hcl]
            exact hc

theorem use_name {w : Addr} {H : Hp} {Q : VK} {E : XK} (hw : WellAt H w) (k : ∀ s H', Nm s → Dr w H H' → Q (.str s) H') : sp_Lname K [.ref w] H Q E := ⟨w, rfl, hw, k⟩
def sp_Lnames (K : PySem.W.Frag) : Sp := fun vs H Q _ => ∃ (w : Addr) (m : Int), vs = [.ref w, .int m] ∧ WellAt H w ∧ 0 ≤ m ∧ m ≤ 8 ∧ ∀ (l : Addr) (ns : List Str) (H' : Hp), Dr w H H' → H l = none → H' l = some (.lst (ns.map V.str)) → (ns.length : Int) = m → ns.Nodup → (∀ s ∈ ns, Nm s) → Q (.ref l) H'
theorem use_names {w : Addr} {m : Int} {H : Hp} {Q : VK} {E : XK} (hw : WellAt H w) (h0 : 0 ≤ m) (h8 : m ≤ 8) (k : ∀ (l : Addr) (ns : List Str) (H' : Hp), Dr w H H' → H l = none → H' l = some (.lst (ns.map V.str)) → (ns.length : Int) = m → ns.Nodup → (∀ s ∈ ns, Nm s) → Q (.ref l) H') : sp_Lnames K [.ref w, .int m] H Q E := ⟨w, m, rfl, hw, h0, h8, k⟩
/-- the names so far -/
structure NS (w l : Addr) (H H' : Hp) (ns : List Str) (n : Nat) : Prop where
  dr : Dr w H H'
  at_ : H' l = some (.lst (ns.map V.str))
  len : ns.length = n
  nd : ns.Nodup
  nm : ∀ s ∈ ns, Nm s
theorem NS.to {w l : Addr} {H H' H2 : Hp} {ns : List Str} {n : Nat} (a : NS w l H H' ns n) (d : Dr w H' H2) (n0 : l ≠ w) : NS w l H H2 ns n := ⟨a.dr.trans d, d.but _ _ n0 a.at_, a.len, a.nd, a.nm⟩
theorem NS.new {w l p : Addr} {H H' : Hp} {ns : List Str} {n : Nat} {o : HO} (a : NS w l H H' ns n) (h : H' p = none) : NS w l H (upd H' p o) ns n := ⟨a.dr.new h, by rw [upd_ne (ne_of_none a.at_ h)]; exact a.at_, a.len, a.nd, a.nm⟩
theorem NS.mut {w l p : Addr} {H H' : Hp} {ns : List Str} {n : Nat} {o : HO} (a : NS w l H H' ns n) (hw : WellAt H w) (h : H p = none) (hl : l ≠ p) : NS w l H (upd H' p o) ns n := ⟨a.dr.mut hw h, by rw [upd_ne hl]; exact a.at_, a.len, a.nd, a.nm⟩

theorem ok_Lnames (T : Tx P w K mg base) : DefOk P w K mg base 3 ("_law_names", none) ["_law_well_here", "_law_many"] (sp_Lnames K) := by
  refine mkOk T.f_Lnames sc_Lnames (fun vs H Q E h => ?_) (fun _ _ _ _ _ _ us hl => match us, hl with | [_, _], _ => rfl) (fun cdv A outer s H vs Q E hr h => ?_)
  · obtain ⟨w0, m, rfl, hw, hm0, hm8, k⟩ := h
    rfl
  · obtain ⟨w0, m, rfl, hw, hm0, hm8, k⟩ := h
    refine ⟨_, (pss_cons (ps_set (i := 2) sc_Lnames.nd rfl (Or.inr rfl) (pe_lst pa_nil))
      (pss_cons (ps_for (passes_of rfl) rfl (pi_range1 rfl T.n_range (pa_cons (pv 1) pa_nil)) (pg_name (i := 3) sc_Lnames.nd rfl (Or.inl rfl)) (pss_cons (ps_set (i := 4) sc_Lnames.nd rfl (Or.inr rfl) (kc (ok_Lname (K := K) T) T.g__law_name (hr.mono (by decide)) pB (pa_cons (pv 0) pa_nil)))
      (pss_cons (ps_if (PW.pt (pw_and (pt_cmpR (neK K rfl hr) (pv 2) (pe_lst pa_nil) (nomark _)) (pw_and1 (pt_cmpR (eqK K rfl hr) (kc (ok_Ldraw (K := K) T) T.g__law_draw (hr.mono (by decide)) pB (pa_cons (pv 0) (pa_cons pe_int pa_nil))) pe_int (nomark _))))) (pss_one (ps_set (i := 4) sc_Lnames.nd rfl (Or.inr rfl) (pe_ix (ixK K rfl) (pv 2) (kc (ok_Ldraw (K := K) T) T.g__law_draw (hr.mono (by decide)) pB (pa_cons (pv 0) (pa_cons (pe_callB (lenK K rfl) rfl T.n_len (by decide +kernel) (pa_cons (pv 2) pa_nil)) pa_nil))) (fun _ _ => rfl)))) pss_nil)
      (pss_cons (ps_set (i := 5) sc_Lnames.nd rfl (Or.inl rfl) (pe_op kAdd (pe_lst (pa_cons (pv 4) pa_nil)) (pe_lc (own := [("_law_sign", 6)]) rfl sc_Lnames.nd (pi_str pe_str) (blkOk_by (N := nm_Lnames) (sc := defScope s_Lnames) (by decide +kernel)) (fun _ _ _ _ _ => (pg_name (i := 6) sc_Lnames.nd rfl (Or.inl rfl))) (fun _ _ _ _ _ => pts_nil) (fun _ _ _ _ _ => (pe_op kAdd (pe_slice (slK K rfl) (pv 4) po_none (po_some pe_int)) (pv 6))))))
      (pss_one (ps_expr (bmK K rfl PySem.F.plainAttrs_list PySem.F.slot_list_append PySem.F.type_list_append mt_append (pv 2) (pa_cons (pe_ix (ixK K rfl) (pe_lc (own := [("_law_one", 7)]) rfl sc_Lnames.nd (psqK K rfl (pv 5)) (blkOk_by (N := nm_Lnames) (sc := defScope s_Lnames) (by decide +kernel)) (fun _ _ _ _ _ => (pg_name (i := 7) sc_Lnames.nd rfl (Or.inl rfl))) (fun _ _ _ _ _ => (pts_one (pt_cmpR (niK K rfl) (pv 7) (pv 2) (by rfl)))) (fun _ _ _ _ _ => (pv 7))) pe_int (fun _ _ => rfl)) pa_nil))))))))
      (pss_one (ps_ret (pv 2))))), ?_⟩
    walk_at "go"
    refine ⟨by show 0 ≤ sizeLine; decide, fun l hl => ?_⟩
    have nl : l ≠ w0 := Dr.ne hw hl
    walk_at "go"
    refine ⟨m, rfl, by omega, by omega, ?_⟩
    refine for_it walk_range (fun i σ H' => ∃ v3 v4 v5, σ = [some (.ref w0), some (.int m), some (.ref l), v3, v4, v5, none, none] ∧ ∃ ns, NS w0 l H H' ns i) ?_ (fun _ _ _ _ _ => trivial) ?_ ?_
    · exact ⟨none, none, none, rfl, [], (Dr.refl hw).new hl, upd_same, rfl, List.nodup_nil, fun s hs => nomatch hs⟩
    · rintro i x σ H1 H1' hi ⟨v3, v4, v5, rfl, ns, hN⟩ ⟨rfl, rfl⟩
      walk_at "go"
      refine use_name hN.dr.well fun s1 H2 n1 d1 => ?_
      have hN2 := hN.to d1 nl
      refine s_name ?_
      with_reducible refine s_cut (fun σ' H' => ∃ s1, Nm s1 ∧ σ' = [some (.ref w0), some (.int m), some (.ref l), some (.int (0 + i)), some (.str s1), v5, none, none] ∧ NS w0 l H H' ns i) ?_ ?_
      · rintro σ' H3 ⟨s1, n1, rfl, hN3⟩
        walk_at "go"
        refine ⟨by show 1 ≤ sizeLine; decide, fun p1 hp1 => ?_⟩
        have hN4 := hN3.new (o := .lst [.str s1]) hp1
        walk_at "go"
        refine fun D hD => lc_it (walk_str (z := LETk)) (fun j H' => NS w0 l H H' ns i ∧ H' p1 = some (.lst [.str s1]) ∧ H' D = some (.lst (((cands (cutS s1 none (some 7))).take j).map V.str))) ?_ (fun _ _ _ _ => trivial) ?_ ?_
        · refine ⟨hN4.new hD, ?_, ?_⟩
          · rw [upd_ne (ne_of_none upd_same hD)]
            exact upd_same
          · exact upd_same
        · rintro j x H4 H4' hj ⟨hN5, q1, q2⟩ ⟨rfl, c, hc, rfl⟩
          have hj26 : j < 26 := hj
          have ec : c = 97 + j := by
            have h2 := sgn j hj26
            have h3 : (cl LETk)[j]? = some c := by rw [← hc]; simp [cl, LETk]
            have h4 := atI_nat h3
            rw [h2] at h4
            injection h4 with h4
            exact h4.symm
          subst ec
          walk_at "go"
          refine .inr ⟨s1, rfl, sz (by have := n1.len; omega), ?_⟩
          walk_at "go"
          have n2 := nm_cut n1 (c := 97 + j) (by omega) (by omega)
          have h7 : (cutS s1 none (some 7)).length ≤ 7 := by
            rw [cl_len, cl_cut7, List.length_take]
            omega
          refine v_addS (sz (by show _ + 1 ≤ _; omega)) ?_
          refine ⟨_, q2, ?_, ?_⟩
          · rw [List.length_map, List.length_take]
            exact Nat.lt_of_le_of_lt (Nat.min_le_left _ _) (Nat.lt_of_lt_of_le hj26 (by decide))
          · have nD : H D = none := hN3.dr.free hw (by
              cases e : H3 D with
              | none => rfl
              | some u => rw [upd_ne (ne_of_none e hp1), e] at hD; cases hD)
            have nlD : l ≠ D := ne_of_none hN4.at_ hD
            have npD : p1 ≠ D := ne_of_none upd_same hD
            refine ⟨hN5.mut hw nD nlD, by rw [upd_ne npD]; exact q1, ?_⟩
            rw [upd_same]
            have e3 : (cands (cutS s1 none (some 7)))[j]? = some (cutS s1 none (some 7) ++ one (97 + j)) := by
              unfold cands
              rw [List.getElem?_map, List.getElem?_range hj26]
              rfl
            rw [List.take_add_one, e3, List.map_append]
            rfl
        · rintro H5 ⟨hN5, q1, q2⟩
          walk_at "go"
          have e26 : ((cands (cutS s1 none (some 7))).take LETk.cps.size) = cands (cutS s1 none (some 7)) := List.take_of_length_le (by show _ ≤ 26; simp [cands])
          rw [e26] at q2
          refine v_addL q1 q2 (sz (by simp [cands])) fun p2 hp2 => ?_
          have hN6 := hN5.new (o := .lst ([V.str s1] ++ (cands (cutS s1 none (some 7))).map V.str)) hp2
          walk_at "go"
          have nlp2 : l ≠ p2 := ne_of_none hN5.at_ hp2
          refine ⟨.inl ⟨rfl, _, SqL.of hN6.at_⟩, ?_⟩
          walk_at "go"
          refine s_isL ?_
          walk_at "go"
          refine ⟨p2, rfl, ⟨_, SqL.of upd_same⟩, fun D2 hD2 => ?_⟩
          have np2D : p2 ≠ D2 := ne_of_none upd_same hD2
          have nlD2 : l ≠ D2 := ne_of_none hN6.at_ hD2
          have nD2 : H D2 = none := hN6.dr.free hw hD2
          have eall : [V.str s1] ++ (cands (cutS s1 none (some 7))).map V.str = (s1 :: cands (cutS s1 none (some 7))).map V.str := rfl
          rw [eall] at hN6 ⊢
          refine lc_it (walk_list (xs := (s1 :: cands (cutS s1 none (some 7))).map V.str)) (fun j H' => NS w0 l H H' ns i ∧ H' p2 = some (.lst ((s1 :: cands (cutS s1 none (some 7))).map V.str)) ∧ H' D2 = some (.lst ((((s1 :: cands (cutS s1 none (some 7))).take j).filter fun z => !decide (z ∈ ns)).map V.str))) ?_ (fun _ _ _ h => SqL.of h.2.1) ?_ ?_
          · refine ⟨hN6.new hD2, ?_, upd_same⟩
            rw [upd_ne np2D]
            exact upd_same
          · rintro j x H6 H6' hj ⟨hN7, q3, q4⟩ ⟨rfl, hx⟩
            rw [List.getElem?_map] at hx
            obtain ⟨z, hz, rfl⟩ := Option.map_eq_some_iff.mp hx
            walk_at "go"
            refine v_niStr (SqL.of hN7.at_) ?_
            walk_at "go"
            have et : (s1 :: cands (cutS s1 none (some 7))).take (j + 1) = (s1 :: cands (cutS s1 none (some 7))).take j ++ [z] := by rw [List.take_add_one, hz]; rfl
            refine it2 (fun hin => ?_) (fun hin => ?_)
            · refine ⟨hN7, q3, ?_⟩
              rw [et, List.filter_append, q4]
              simp [hin]
            · walk_at "go"
              refine ⟨_, q4, ?_, hN7.mut hw nD2 nlD2, by rw [upd_ne np2D]; exact q3, ?_⟩
              · rw [List.length_map]
                refine Nat.lt_of_le_of_lt (List.length_filter_le _ _) (Nat.lt_of_le_of_lt (List.length_take_le _ _) (Nat.lt_of_le_of_lt ?_ (show 27 < sizeLine by decide)))
                simp only [List.length_map] at hj
                simp [cands] at hj ⊢
                omega
              · rw [upd_same, et, List.filter_append, List.map_append]
                simp [hin]
          · rintro H6 ⟨hN7, q3, q4⟩
            rw [List.take_of_length_le (by simp)] at q4
            walk_at "go"
            have hlen : ns.length < (cands (cutS s1 none (some 7))).length := by
              have := hN7.len
              simp [cands]
              omega
            obtain ⟨z, hz1, hz2⟩ := some_not_in (cands_nodup (cutS s1 none (some 7))) hlen
            have hzf : z ∈ (s1 :: cands (cutS s1 none (some 7))).filter fun z => !decide (z ∈ ns) := List.mem_filter.mpr ⟨List.mem_cons_of_mem _ hz1, by simp [hz2]⟩
            cases ef : (s1 :: cands (cutS s1 none (some 7))).filter fun z => !decide (z ∈ ns) with
            | nil => rw [ef] at hzf; cases hzf
            | cons y ys =>
              rw [ef] at q4
              have hy : y ∈ (s1 :: cands (cutS s1 none (some 7))).filter fun z => !decide (z ∈ ns) := by rw [ef]; exact List.mem_cons_self ..
              obtain ⟨hy1, hy2⟩ := List.mem_filter.mp hy
              have hyn : y ∉ ns := by simpa using hy2
              have ny : Nm y := by
                rcases List.mem_cons.mp hy1 with e | hy1
                · rw [e]; exact n1
                · unfold cands at hy1
                  obtain ⟨j, hj, rfl⟩ := List.mem_map.mp hy1
                  have := List.mem_range.mp hj
                  exact nm_cut n1 (by omega) (by omega)
              refine v_ixL (SqL.of q4) atI_zero ?_
              walk_at "go"
              refine v_app hN7.at_ ?_ ?_
              · rw [List.length_map, hN7.len]
                exact Nat.lt_of_le_of_lt (show i ≤ 8 by omega) (by decide)
              · refine ⟨_, _, _, rfl, ns ++ [y], hN7.dr.mut hw hl, ?_, ?_, ?_, ?_⟩
                · rw [upd_same, List.map_append]
                  rfl
                · rw [List.length_append, hN7.len]
                  rfl
                · refine List.nodup_append.mpr ⟨hN7.nd, by simp, ?_⟩
                  intro a ha b hb
                  rw [List.mem_singleton.mp hb]
                  exact fun e => hyn (e ▸ ha)
                · intro s hs
                  rcases List.mem_append.mp hs with hs | hs
                  · exact hN7.nm s hs
                  · rw [List.mem_singleton.mp hs]
                    exact ny
      · intro U hU
        walk_at "go"
        refine ⟨by show 0 ≤ sizeLine; decide, fun p1 hp1 => ?_⟩
        have hN3 := hN2.new (o := .lst []) hp1
        refine v_neL0 (SqL.of hN3.at_) (SqL.of upd_same) (sc_str hN3.nm) ?_
        walk_at "go"
        cases ns with
        | nil =>
          rw [show (([] : List Str).map V.str).isEmpty = true from rfl]
          walk_at "go"
          exact hU _ _ ⟨s1, n1, rfl, hN3⟩
        | cons n0 nr =>
          rw [show ((n0 :: nr).map V.str).isEmpty = false from rfl]
          walk_at "go"
          refine use_draw (n := 3) hN3.dr.well (by decide) (by decide) fun r H4 hr0 hr1 d4 => ?_
          have hN4 := hN3.to d4 nl
          walk_at "go"
          refine it2 (fun _ => ?_) (fun _ => ?_)
          · walk_at "go"
            refine v_lenL (SqL.of hN4.at_) ?_
            walk_at "go"
            rw [List.length_map]
            refine use_draw (n := ((n0 :: nr).length : Nat)) hN4.dr.well (by rw [List.length_cons]; omega) (by have := hN4.len; omega) fun r2 H5 hr2 hr3 d5 => ?_
            have hN5 := hN4.to d5 nl
            obtain ⟨v, h1, h2, _⟩ := atI_lt (xs := (n0 :: nr).map V.str) hr2 (by rw [List.length_map]; exact hr3)
            obtain ⟨z, hz, rfl⟩ := List.mem_map.mp h2
            refine v_ixL (SqL.of hN5.at_) h1 ?_
            walk_at "go"
            exact hU _ _ ⟨z, hN5.nm z hz, rfl, hN5⟩
          · walk_at "go"
            exact hU _ _ ⟨s1, n1, rfl, hN4⟩
    · rintro σ H1 ⟨v3, v4, v5, rfl, ns, hN⟩
      walk_at "go"
      exact k l ns H1 hN.dr hl hN.at_ (by rw [hN.len]; omega) hN.nd hN.nm
end
end Kn

set_option Elab.async false
set_option linter.all false
set_option maxRecDepth 100000
set_option maxHeartbeats 4000000
namespace Kn
open PySem PySem.Spec PyProof.Rows L2
local macro_rules | `(tactic| walk_at "go1") => `(tactic| first
  | with_reducible refine s_seq ?_
  | with_reducible refine s_var rfl ?_
  | with_reducible refine s_c ?_
  | with_reducible refine s_cons ?_
  | with_reducible refine s_nil ?_
  | with_reducible refine s_asg ?_
  | with_reducible refine s_name ?_
  | with_reducible refine s_op ?_
  | with_reducible refine s_call ?_
  | with_reducible refine s_cb ?_
  | with_reducible refine s_ret ?_
  | with_reducible refine s_drop ?_
  | with_reducible refine s_next ?_
  | with_reducible refine s_ifs ?_
  | with_reducible refine s_test ?_
  | with_reducible refine s_tB ?_
  | with_reducible refine s_blP ?_
  | with_reducible refine s_intP ?_
  | with_reducible refine iteT ?_
  | with_reducible refine iteF ?_
  | with_reducible refine ite_not ?_
  | with_reducible refine s_and ?_
  | with_reducible refine s_or ?_
  | with_reducible refine s_not ?_
  | with_reducible refine s_andV ?_
  | with_reducible refine s_orV ?_
  | with_reducible refine s_notV ?_
  | with_reducible refine s_chain ?_
  | with_reducible refine s_sub ?_
  | with_reducible refine s_bm ?_
  | with_reducible refine s_sl ?_
  | with_reducible refine s_part ?_
  | with_reducible refine s_nop ?_
  | with_reducible refine s_make ?_
  | with_reducible refine s_un ?_
  | with_reducible refine s_ifE ?_
  | with_reducible refine s_gcons ?_
  | with_reducible refine s_gnil ?_
  | with_reducible refine s_meth ?_
  | with_reducible refine s_rev ?_
  | with_reducible refine s_lc ?_
  | with_reducible refine s_rng1 ?_
  | with_reducible refine s_ilst ?_
  | with_reducible refine s_istr ?_
  | with_reducible refine s_for ?_
  | with_reducible refine s_yes ?_
  | with_reducible refine s_wipe rfl ?_
  | with_reducible refine s_kget ?_
  | with_reducible refine s_strP ?_
  | with_reducible refine s_fldS ?_
  | with_reducible refine s_fld ?_
  | with_reducible refine s_tup ?_
  | with_reducible refine s_lst ?_
  | with_reducible refine v_addI ?_
  | with_reducible refine v_subI ?_
  | with_reducible refine v_lt ?_
  | with_reducible refine v_le ?_
  | with_reducible refine v_gt ?_
  | with_reducible refine v_ge ?_
  | with_reducible refine v_eqI ?_
  | with_reducible refine v_eqS ?_
  | with_reducible refine v_neS ?_
  | with_reducible refine v_neI ?_)
local macro_rules | `(tactic| walk_at "go") => `(tactic| repeat walk_at "go1")

section
variable {w : World} {P : Program} {mg : Str → Option Value} {K : PySem.W.Frag} {base : Heap}
inductive GT : List V → Str → List (Str × V) → Prop where
  | Give (h : Str) (c : Int) (n : Str) (hh : Nm h) (hc : 1 ≤ c ∧ c ≤ 1000000000000) (hn : (n = "" ∨ Nm n))  : GT [.str "give", .str h, .int c, .str n] "Give" (fsGive (.str h) (.int c) (.str n))
  | Hold (h : Str) (c : Int) (u : Int) (n : Str) (hh : Nm h) (hc : 1 ≤ c ∧ c ≤ 1000000000000) (hu : 2 ≤ u ∧ u ≤ 31) (hn : (n = "" ∨ Nm n))  : GT [.str "hold", .str h, .int c, .int u, .str n] "Hold" (fsHold (.str h) (.int c) (.int u) (.str n))
  | Move (h : Str) (o : Str) (c : Int) (n : Str) (hh : Nm h) (ho : Nm o) (hc : 1 ≤ c ∧ c ≤ 1000000000000) (hn : (n = "" ∨ Nm n)) (ne : h ≠ o) : GT [.str "move", .str h, .str o, .int c, .str n] "Move" (fsMove (.str h) (.str o) (.int c) (.str n))
  | Spend (h : Str) (c : Int) (n : Str) (hh : Nm h) (hc : 1 ≤ c ∧ c ≤ 1000000000000) (hn : (n = "" ∨ Nm n))  : GT [.str "spend", .str h, .int c, .str n] "Spend" (fsSpend (.str h) (.int c) (.str n))
  | Promise (r : Str) (h : Str) (c : Int) (n : Str) (hr : Nm r) (hh : Nm h) (hc : 1 ≤ c ∧ c ≤ 1000000000000) (hn : (n = "" ∨ Nm n))  : GT [.str "promise", .str r, .str h, .int c, .str n] "Promise" (fsPromise (.str r) (.str h) (.int c) (.str n))
  | Lessen (r : Str) (c : Int) (n : Str) (hr : Nm r) (hc : 1 ≤ c ∧ c ≤ 1000000000000) (hn : (n = "" ∨ Nm n))  : GT [.str "lessen", .str r, .int c, .str n] "Lessen" (fsLessen (.str r) (.int c) (.str n))
  | Out (r : Str) (c : Int) (n : Str) (hr : Nm r) (hc : 1 ≤ c ∧ c ≤ 1000000000000) (hn : (n = "" ∨ Nm n))  : GT [.str "out", .str r, .int c, .str n] "Out" (fsOut (.str r) (.int c) (.str n))

theorem nameB_nm {s : Str} (h : Nm s) : nameB (.str s) = true := by
  have e1 : ¬ s = "" := ne_empty h.ne
  have e2 : ¬ (8 : Int) < s.length := by
    have := h.len
    omega
  show (!decide (s = "") && (!decide ((8 : Int) < s.length) && decide (Txt.stripChars s LET = ""))) = true
  rw [decide_eq_false e1, decide_eq_false e2, decide_eq_true (show Txt.stripChars s LET = "" from h.strip)]
  rfl
theorem coinsB_ok {c : Int} {n : Str} (hc : 1 ≤ c ∧ c ≤ 1000000000000) (hn : n = "" ∨ Nm n) : coinsB (.int c) (.str n) = true := by
  have e1 : withinB (.int c) 1 1000000000000 = true := by
    show (decide (1 ≤ c) && decide (c ≤ 1000000000000)) = true
    rw [decide_eq_true hc.1, decide_eq_true hc.2]
    rfl
  show (withinB (.int c) 1 1000000000000 && strB (.str n) && (decide (V.str n = .str "") || nameB (.str n))) = true
  rw [e1]
  rcases hn with rfl | hn
  · simp
  · rw [nameB_nm hn]
    simp
theorem nt_len {n : Str} (hn : n = "" ∨ Nm n) : n.length ≤ 100000 := by
  rcases hn with rfl | hn
  · decide +kernel
  · have := hn.len
    omega
theorem nt_ok {n : Str} (hn : n = "" ∨ Nm n) : PyData.strOk n = true := by
  rcases hn with rfl | hn
  · decide +kernel
  · exact hn.ok
theorem nm_len {n : Str} (hn : Nm n) : n.length ≤ 100000 := by
  have := hn.len
  omega

theorem okGive_gt {h n : Str} {c : Int} (hh : Nm h) (hc : 1 ≤ c ∧ c ≤ 1000000000000) (hn : (n = "" ∨ Nm n)) : okGiveB (.str h) (.int c) (.str n) = true := by
  unfold okGiveB
  rw [nameB_nm hh, coinsB_ok hc hn]
  rfl
theorem okHold_gt {h n : Str} {c u : Int} (hh : Nm h) (hc : 1 ≤ c ∧ c ≤ 1000000000000) (hu : 2 ≤ u ∧ u ≤ 31) (hn : (n = "" ∨ Nm n)) : okHoldB (.str h) (.int c) (.int u) (.str n) = true := by
  unfold okHoldB
  rw [nameB_nm hh, coinsB_ok hc hn, show withinB (.int u) 2 31 = true from by show (decide (2 ≤ u) && decide (u ≤ 31)) = true; rw [decide_eq_true hu.1, decide_eq_true hu.2]; rfl]
  rfl
theorem okMove_gt {h o n : Str} {c : Int} (hh : Nm h) (ho : Nm o) (hc : 1 ≤ c ∧ c ≤ 1000000000000) (hn : (n = "" ∨ Nm n)) (ne : h ≠ o) : okMoveB (.str h) (.str o) (.int c) (.str n) = true := by
  unfold okMoveB
  rw [nameB_nm hh, nameB_nm ho, coinsB_ok hc hn, show decide (V.str h = .str o) = false from decide_eq_false fun z => ne (by injection z)]
  rfl
theorem okSpend_gt {h n : Str} {c : Int} (hh : Nm h) (hc : 1 ≤ c ∧ c ≤ 1000000000000) (hn : (n = "" ∨ Nm n)) : okSpendB (.str h) (.int c) (.str n) = true := by
  unfold okSpendB
  rw [nameB_nm hh, coinsB_ok hc hn]
  rfl
theorem okPromise_gt {r h n : Str} {c : Int} (hr : Nm r) (hh : Nm h) (hc : 1 ≤ c ∧ c ≤ 1000000000000) (hn : (n = "" ∨ Nm n)) : okPromiseB (.str r) (.str h) (.int c) (.str n) = true := by
  unfold okPromiseB
  rw [nameB_nm hr, nameB_nm hh, coinsB_ok hc hn]
  rfl
theorem okLessen_gt {r n : Str} {c : Int} (hr : Nm r) (hc : 1 ≤ c ∧ c ≤ 1000000000000) (hn : (n = "" ∨ Nm n)) : okLessenB (.str r) (.int c) (.str n) = true := by
  unfold okLessenB
  rw [nameB_nm hr, coinsB_ok hc hn]
  rfl
theorem okOut_gt {r n : Str} {c : Int} (hr : Nm r) (hc : 1 ≤ c ∧ c ≤ 1000000000000) (hn : (n = "" ∨ Nm n)) : okOutB (.str r) (.int c) (.str n) = true := by
  unfold okOutB
  rw [nameB_nm hr, coinsB_ok hc hn]
  rfl
theorem GT.ent {xs : List V} {C : Str} {fs : List (Str × V)} (h : GT xs C fs) : entOf xs = some (C, fs) := by
  cases h with
  | Give h c n hh hc hn  =>
    have e := okGive_gt hh hc hn 
    have ee : entOf [.str "give", .str h, .int c, .str n] = if okGiveB (.str h) (.int c) (.str n) = true then some (("Give" : Str), fsGive (.str h) (.int c) (.str n)) else none := by first | rfl | decide +kernel | simp [entOf]
    rw [ee, if_pos e]
  | Hold h c u n hh hc hu hn  =>
    have e := okHold_gt hh hc hu hn 
    have ee : entOf [.str "hold", .str h, .int c, .int u, .str n] = if okHoldB (.str h) (.int c) (.int u) (.str n) = true then some (("Hold" : Str), fsHold (.str h) (.int c) (.int u) (.str n)) else none := by first | rfl | decide +kernel | simp [entOf]
    rw [ee, if_pos e]
  | Move h o c n hh ho hc hn ne =>
    have e := okMove_gt hh ho hc hn ne
    have ee : entOf [.str "move", .str h, .str o, .int c, .str n] = if okMoveB (.str h) (.str o) (.int c) (.str n) = true then some (("Move" : Str), fsMove (.str h) (.str o) (.int c) (.str n)) else none := by first | rfl | decide +kernel | simp [entOf]
    rw [ee, if_pos e]
  | Spend h c n hh hc hn  =>
    have e := okSpend_gt hh hc hn 
    have ee : entOf [.str "spend", .str h, .int c, .str n] = if okSpendB (.str h) (.int c) (.str n) = true then some (("Spend" : Str), fsSpend (.str h) (.int c) (.str n)) else none := by first | rfl | decide +kernel | simp [entOf]
    rw [ee, if_pos e]
  | Promise r h c n hr hh hc hn  =>
    have e := okPromise_gt hr hh hc hn 
    have ee : entOf [.str "promise", .str r, .str h, .int c, .str n] = if okPromiseB (.str r) (.str h) (.int c) (.str n) = true then some (("Promise" : Str), fsPromise (.str r) (.str h) (.int c) (.str n)) else none := by first | rfl | decide +kernel | simp [entOf]
    rw [ee, if_pos e]
  | Lessen r c n hr hc hn  =>
    have e := okLessen_gt hr hc hn 
    have ee : entOf [.str "lessen", .str r, .int c, .str n] = if okLessenB (.str r) (.int c) (.str n) = true then some (("Lessen" : Str), fsLessen (.str r) (.int c) (.str n)) else none := by first | rfl | decide +kernel | simp [entOf]
    rw [ee, if_pos e]
  | Out r c n hr hc hn  =>
    have e := okOut_gt hr hc hn 
    have ee : entOf [.str "out", .str r, .int c, .str n] = if okOutB (.str r) (.int c) (.str n) = true then some (("Out" : Str), fsOut (.str r) (.int c) (.str n)) else none := by first | rfl | decide +kernel | simp [entOf]
    rw [ee, if_pos e]
theorem wd_ok : ∀ s ∈ (["give", "hold", "move", "spend", "promise", "lessen", "out"] : List Str), s.length ≤ 100000 ∧ PyData.strOk s = true := by
  have h : (["give", "hold", "move", "spend", "promise", "lessen", "out"] : List Str).all (fun s => decide (s.length ≤ 100000) && PyData.strOk s) = true := by decide +kernel
  intro s hs
  have := List.all_eq_true.mp h s hs
  simpa using this
theorem GT.knd {xs : List V} {C : Str} {fs : List (Str × V)} {K : PySem.W.Frag} {H : Hp} (h : GT xs C fs) : ∀ x ∈ xs, Knd K H x := by
  cases h with
  | Give h c n hh hc hn  =>
    intro x hx
    rcases List.mem_cons.mp hx with rfl | hx
    · exact Knd.str (wd_ok _ (by simp)).1
    rcases List.mem_cons.mp hx with rfl | hx
    · exact (Knd.str (nm_len hh))
    rcases List.mem_cons.mp hx with rfl | hx
    · exact Knd.int
    rcases List.mem_cons.mp hx with rfl | hx
    · exact (Knd.str (nt_len hn))
    cases hx
  | Hold h c u n hh hc hu hn  =>
    intro x hx
    rcases List.mem_cons.mp hx with rfl | hx
    · exact Knd.str (wd_ok _ (by simp)).1
    rcases List.mem_cons.mp hx with rfl | hx
    · exact (Knd.str (nm_len hh))
    rcases List.mem_cons.mp hx with rfl | hx
    · exact Knd.int
    rcases List.mem_cons.mp hx with rfl | hx
    · exact Knd.int
    rcases List.mem_cons.mp hx with rfl | hx
    · exact (Knd.str (nt_len hn))
    cases hx
  | Move h o c n hh ho hc hn ne =>
    intro x hx
    rcases List.mem_cons.mp hx with rfl | hx
    · exact Knd.str (wd_ok _ (by simp)).1
    rcases List.mem_cons.mp hx with rfl | hx
    · exact (Knd.str (nm_len hh))
    rcases List.mem_cons.mp hx with rfl | hx
    · exact (Knd.str (nm_len ho))
    rcases List.mem_cons.mp hx with rfl | hx
    · exact Knd.int
    rcases List.mem_cons.mp hx with rfl | hx
    · exact (Knd.str (nt_len hn))
    cases hx
  | Spend h c n hh hc hn  =>
    intro x hx
    rcases List.mem_cons.mp hx with rfl | hx
    · exact Knd.str (wd_ok _ (by simp)).1
    rcases List.mem_cons.mp hx with rfl | hx
    · exact (Knd.str (nm_len hh))
    rcases List.mem_cons.mp hx with rfl | hx
    · exact Knd.int
    rcases List.mem_cons.mp hx with rfl | hx
    · exact (Knd.str (nt_len hn))
    cases hx
  | Promise r h c n hr hh hc hn  =>
    intro x hx
    rcases List.mem_cons.mp hx with rfl | hx
    · exact Knd.str (wd_ok _ (by simp)).1
    rcases List.mem_cons.mp hx with rfl | hx
    · exact (Knd.str (nm_len hr))
    rcases List.mem_cons.mp hx with rfl | hx
    · exact (Knd.str (nm_len hh))
    rcases List.mem_cons.mp hx with rfl | hx
    · exact Knd.int
    rcases List.mem_cons.mp hx with rfl | hx
    · exact (Knd.str (nt_len hn))
    cases hx
  | Lessen r c n hr hc hn  =>
    intro x hx
    rcases List.mem_cons.mp hx with rfl | hx
    · exact Knd.str (wd_ok _ (by simp)).1
    rcases List.mem_cons.mp hx with rfl | hx
    · exact (Knd.str (nm_len hr))
    rcases List.mem_cons.mp hx with rfl | hx
    · exact Knd.int
    rcases List.mem_cons.mp hx with rfl | hx
    · exact (Knd.str (nt_len hn))
    cases hx
  | Out r c n hr hc hn  =>
    intro x hx
    rcases List.mem_cons.mp hx with rfl | hx
    · exact Knd.str (wd_ok _ (by simp)).1
    rcases List.mem_cons.mp hx with rfl | hx
    · exact (Knd.str (nm_len hr))
    rcases List.mem_cons.mp hx with rfl | hx
    · exact Knd.int
    rcases List.mem_cons.mp hx with rfl | hx
    · exact (Knd.str (nt_len hn))
    cases hx
theorem GT.sc {xs : List V} {C : Str} {fs : List (Str × V)} (h : GT xs C fs) : xs.all scB = true := by
  cases h with
  | Give h c n hh hc hn  =>
    have e0 := (wd_ok "give" (by simp)).2
    have eh : PyData.strOk h = true := Nm.ok hh
    have en : PyData.strOk n = true := nt_ok hn
    simp only [List.all_cons, List.all_nil, scB, e0, eh, en, Bool.and_self, Bool.and_true]
  | Hold h c u n hh hc hu hn  =>
    have e0 := (wd_ok "hold" (by simp)).2
    have eh : PyData.strOk h = true := Nm.ok hh
    have en : PyData.strOk n = true := nt_ok hn
    simp only [List.all_cons, List.all_nil, scB, e0, eh, en, Bool.and_self, Bool.and_true]
  | Move h o c n hh ho hc hn ne =>
    have e0 := (wd_ok "move" (by simp)).2
    have eh : PyData.strOk h = true := Nm.ok hh
    have eo : PyData.strOk o = true := Nm.ok ho
    have en : PyData.strOk n = true := nt_ok hn
    simp only [List.all_cons, List.all_nil, scB, e0, eh, eo, en, Bool.and_self, Bool.and_true]
  | Spend h c n hh hc hn  =>
    have e0 := (wd_ok "spend" (by simp)).2
    have eh : PyData.strOk h = true := Nm.ok hh
    have en : PyData.strOk n = true := nt_ok hn
    simp only [List.all_cons, List.all_nil, scB, e0, eh, en, Bool.and_self, Bool.and_true]
  | Promise r h c n hr hh hc hn  =>
    have e0 := (wd_ok "promise" (by simp)).2
    have er : PyData.strOk r = true := Nm.ok hr
    have eh : PyData.strOk h = true := Nm.ok hh
    have en : PyData.strOk n = true := nt_ok hn
    simp only [List.all_cons, List.all_nil, scB, e0, er, eh, en, Bool.and_self, Bool.and_true]
  | Lessen r c n hr hc hn  =>
    have e0 := (wd_ok "lessen" (by simp)).2
    have er : PyData.strOk r = true := Nm.ok hr
    have en : PyData.strOk n = true := nt_ok hn
    simp only [List.all_cons, List.all_nil, scB, e0, er, en, Bool.and_self, Bool.and_true]
  | Out r c n hr hc hn  =>
    have e0 := (wd_ok "out" (by simp)).2
    have er : PyData.strOk r = true := Nm.ok hr
    have en : PyData.strOk n = true := nt_ok hn
    simp only [List.all_cons, List.all_nil, scB, e0, er, en, Bool.and_self, Bool.and_true]

def sp_Lcoins (K : PySem.W.Frag) : Sp := fun vs H Q _ => ∃ (w : Addr), vs = [.ref w] ∧ WellAt H w ∧ ∀ (c : Int) (H' : Hp), 1 ≤ c → c ≤ 1000000000000 → Dr w H H' → Q (.int c) H'
theorem use_coins {w : Addr} {H : Hp} {Q : VK} {E : XK} (hw : WellAt H w) (k : ∀ (c : Int) (H' : Hp), 1 ≤ c → c ≤ 1000000000000 → Dr w H H' → Q (.int c) H') : sp_Lcoins K [.ref w] H Q E := ⟨w, rfl, hw, k⟩
theorem p12 : (10 : Int) ^ (Int.toNat 12) = 1000000000000 := by decide

theorem ok_Lcoins (T : Tx P w K mg base) : DefOk P w K mg base 2 ("_law_coins", none) ["_law_well_here"] (sp_Lcoins K) := by
  refine mkOk T.f_Lcoins sc_Lcoins (fun vs H Q E h => ?_) (fun _ _ _ _ _ _ us hl => match us, hl with | [_], _ => rfl) (fun cdv A outer s H vs Q E hr h => ?_)
  · obtain ⟨w0, rfl, hw, k⟩ := h
    rfl
  · obtain ⟨w0, rfl, hw, k⟩ := h
    refine ⟨_, (pss_one (ps_ret (pe_ix (ixK K rfl) (pe_lst (pa_cons pe_int (pa_cons (pe_op kPow pe_int pe_int) (pa_cons (pe_op kAdd pe_int (kc (ok_Ldraw (K := K) T) T.g__law_draw (hr.mono (by decide)) pB (pa_cons (pv 0) (pa_cons (pe_op kPow pe_int pe_int) pa_nil)))) (pa_cons (pe_op kAdd pe_int (kc (ok_Ldraw (K := K) T) T.g__law_draw (hr.mono (by decide)) pB (pa_cons (pv 0) (pa_cons pe_int pa_nil)))) pa_nil))))) (kc (ok_Ldraw (K := K) T) T.g__law_draw (hr.mono (by decide)) pB (pa_cons (pv 0) (pa_cons pe_int pa_nil))) (fun _ _ => rfl)))), ?_⟩
    walk_at "go"
    refine v_powI ⟨by decide, by decide, by decide⟩ ?_
    walk_at "go"
    refine v_powI ⟨by decide, by decide, by decide⟩ ?_
    walk_at "go"
    rw [p12]
    refine use_draw (n := 1000000000000) hw (by decide) (by decide) fun r H1 hr0 hr1 d1 => ?_
    walk_at "go"
    refine use_draw (n := 50) d1.well (by decide) (by decide) fun r2 H2 hr2 hr3 d2 => ?_
    walk_at "go"
    have d3 := d1.trans d2
    refine ⟨by show 4 ≤ sizeLine; decide, fun p hp => ?_⟩
    have np : p ≠ w0 := Dr.ne d3.well hp
    have d4 := d3.new (o := .lst [.int 1, .int 1000000000000, .int (1 + r), .int (1 + r2)]) hp
    walk_at "go"
    refine use_draw (n := 4) d4.well (by decide) (by decide) fun r3 H3 hr4 hr5 d5 => ?_
    obtain ⟨v, h1, h2, _⟩ := atI_lt (xs := [V.int 1, .int 1000000000000, .int (1 + r), .int (1 + r2)]) hr4 (by show r3 < 4; exact hr5)
    refine v_ixL (SqL.of (d5.but _ _ np upd_same)) h1 ?_
    simp only [List.mem_cons, List.not_mem_nil, or_false] at h2
    rcases h2 with rfl | rfl | rfl | rfl
    all_goals exact k _ _ (by omega) (by omega) (d4.trans d5)

def KW : List Str := ["give", "hold", "move", "spend", "promise", "lessen", "out"]
def sp_Ltold (K : PySem.W.Frag) : Sp := fun vs H Q _ => ∃ (w : Addr), vs = [.ref w] ∧ WellAt H w ∧ ∀ (t : Addr) (xs : List V) (C : Str) (fs : List (Str × V)) (H' : Hp), GT xs C fs → Dr w H H' → H t = none → H' t = some (.tup xs) → Q (.ref t) H'
theorem use_told {w : Addr} {H : Hp} {Q : VK} {E : XK} (hw : WellAt H w) (k : ∀ (t : Addr) (xs : List V) (C : Str) (fs : List (Str × V)) (H' : Hp), GT xs C fs → Dr w H H' → H t = none → H' t = some (.tup xs) → Q (.ref t) H') : sp_Ltold K [.ref w] H Q E := ⟨w, rfl, hw, k⟩
theorem len2 {α : Type} {l : List α} (h : (l.length : Int) = 2) : ∃ a b, l = [a, b] := by
  match l, h with
  | [a, b], _ => exact ⟨a, b, rfl⟩
  | [], h => simp at h
  | [_], h => simp at h
  | _ :: _ :: _ :: _, h => simp at h; omega

theorem ok_Ltold (T : Tx P w K mg base) : DefOk P w K mg base 4 ("_law_told", none) ["_law_well_here"] (sp_Ltold K) := by
  refine mkOk T.f_Ltold sc_Ltold (fun vs H Q E h => ?_) (fun _ _ _ _ _ _ us hl => match us, hl with | [_], _ => rfl) (fun cdv A outer s H vs Q E hr h => ?_)
  · obtain ⟨w0, rfl, hw, k⟩ := h
    rfl
  · obtain ⟨w0, rfl, hw, k⟩ := h
    refine ⟨_, (pss_cons (ps_set (i := 1) sc_Ltold.nd rfl (Or.inl rfl) (pe_ix (ixK K rfl) (pe_lst (pa_cons pe_str (pa_cons pe_str (pa_cons pe_str (pa_cons pe_str (pa_cons pe_str (pa_cons pe_str (pa_cons pe_str pa_nil)))))))) (kc (ok_Ldraw (K := K) T) T.g__law_draw (hr.mono (by decide)) pB (pa_cons (pv 0) (pa_cons pe_int pa_nil))) (fun _ _ => rfl)))
      (pss_cons (ps_asg (kc (ok_Lnames (K := K) T) T.g__law_names (hr.mono (by decide)) pB (pa_cons (pv 0) (pa_cons pe_int pa_nil))) (gtK K rfl rfl (pgs_cons (pg_name (i := 2) sc_Ltold.nd rfl (Or.inl rfl)) (pgs_cons (pg_name (i := 3) sc_Ltold.nd rfl (Or.inl rfl)) pgs_nil))))
      (pss_cons (ps_set (i := 4) sc_Ltold.nd rfl (Or.inl rfl) (kc (ok_Lcoins (K := K) T) T.g__law_coins (hr.mono (by decide)) pB (pa_cons (pv 0) pa_nil)))
      (pss_cons (ps_set (i := 5) sc_Ltold.nd rfl (Or.inl rfl) (pe_ix (ixK K rfl) (pe_lst (pa_cons pe_str (pa_cons (kc (ok_Lname (K := K) T) T.g__law_name (hr.mono (by decide)) pB (pa_cons (pv 0) pa_nil)) (pa_cons (pv 2) (pa_cons (pv 3) pa_nil))))) (kc (ok_Ldraw (K := K) T) T.g__law_draw (hr.mono (by decide)) pB (pa_cons (pv 0) (pa_cons pe_int pa_nil))) (fun _ _ => rfl)))
      (pss_cons (ps_if (pt_cmpR (eqK K rfl hr) (pv 1) pe_str (nomark _)) (pss_one (ps_ret (pe_tup (pa_cons (pv 1) (pa_cons (pv 2) (pa_cons (pv 4) (pa_cons (pe_ix (ixK K rfl) (pe_lst (pa_cons pe_int (pa_cons pe_int (pa_cons (pe_op kAdd pe_int (kc (ok_Ldraw (K := K) T) T.g__law_draw (hr.mono (by decide)) pB (pa_cons (pv 0) (pa_cons pe_int pa_nil)))) pa_nil)))) (kc (ok_Ldraw (K := K) T) T.g__law_draw (hr.mono (by decide)) pB (pa_cons (pv 0) (pa_cons pe_int pa_nil))) (fun _ _ => rfl)) (pa_cons (pv 5) pa_nil)))))))) pss_nil)
      (pss_cons (ps_if (pt_cmpR (eqK K rfl hr) (pv 1) pe_str (nomark _)) (pss_one (ps_ret (pe_tup (pa_cons (pv 1) (pa_cons (pv 2) (pa_cons (pv 3) (pa_cons (pv 4) (pa_cons (pv 5) pa_nil)))))))) pss_nil)
      (pss_cons (ps_if (pt_cmpR (eqK K rfl hr) (pv 1) pe_str (nomark _)) (pss_one (ps_ret (pe_tup (pa_cons (pv 1) (pa_cons (pe_ix (ixK K rfl) (pe_lst (pa_cons (pv 3) (pa_cons (pv 2) pa_nil))) (kc (ok_Ldraw (K := K) T) T.g__law_draw (hr.mono (by decide)) pB (pa_cons (pv 0) (pa_cons pe_int pa_nil))) (fun _ _ => rfl)) (pa_cons (pv 2) (pa_cons (pv 4) (pa_cons (pv 5) pa_nil)))))))) pss_nil)
      (pss_one (ps_ret (pe_tup (pa_cons (pv 1) (pa_cons (pv 2) (pa_cons (pv 4) (pa_cons (pv 5) pa_nil)))))))))))))), ?_⟩
    walk_at "go"
    refine ⟨by show 7 ≤ sizeLine; decide, fun p1 hp1 => ?_⟩
    have np1 : p1 ≠ w0 := Dr.ne hw hp1
    have d1 := (Dr.refl hw).new (o := .lst (KW.map V.str)) hp1
    walk_at "go"
    refine use_draw (n := 7) d1.well (by decide) (by decide) fun r H1 hr0 hr1 d2 => ?_
    obtain ⟨v, h1, h2, _⟩ := atI_lt (xs := KW.map V.str) hr0 (by show r < 7; exact hr1)
    obtain ⟨kd, hkd, rfl⟩ := List.mem_map.mp h2
    refine v_ixL (xs := KW.map V.str) (SqL.of (d2.but _ _ np1 upd_same)) h1 ?_
    have d3 := d1.trans d2
    walk_at "go"
    refine use_names (m := 2) d3.well (by decide) (by decide) fun l ns H2 d4 hl hns hlen hnd hnm => ?_
    obtain ⟨a, b, rfl⟩ := len2 hlen
    have na := hnm a (by simp)
    have nb := hnm b (by simp)
    have hne : a ≠ b := by simpa using hnd
    have d5 := d3.trans d4
    refine s_gsL (xs := [V.str a, V.str b]) (SqL.of hns) rfl ?_
    walk_at "go"
    refine use_coins d5.well fun c H3 hc0 hc1 d6 => ?_
    have hc := And.intro hc0 hc1
    have d7 := d5.trans d6
    walk_at "go"
    refine use_name d7.well fun s H4 hs d8 => ?_
    have d8' := d7.trans d8
    walk_at "go"
    refine ⟨by show 4 ≤ sizeLine; decide, fun p2 hp2 => ?_⟩
    have np2 : p2 ≠ w0 := Dr.ne d8'.well hp2
    have d8'' := d8'.new (o := .lst [.str "", .str s, .str a, .str b]) hp2
    walk_at "go"
    refine use_draw (n := 4) d8''.well (by decide) (by decide) fun r4 H5 hr4 hr5 d9' => ?_
    obtain ⟨v2, h1', h2', _⟩ := atI_lt (xs := [V.str "", .str s, .str a, .str b]) hr4 (by show r4 < 4; exact hr5)
    refine v_ixL (SqL.of (d9'.but _ _ np2 upd_same)) h1' ?_
    have d9 := d8''.trans d9'
    have hn0 : ∃ n : Str, v2 = .str n ∧ (n = "" ∨ Nm n) := by
      simp only [List.mem_cons, List.not_mem_nil, or_false] at h2'
      rcases h2' with rfl | rfl | rfl | rfl
      · exact ⟨_, rfl, .inl rfl⟩
      · exact ⟨_, rfl, .inr hs⟩
      · exact ⟨_, rfl, .inr na⟩
      · exact ⟨_, rfl, .inr nb⟩
    obtain ⟨n, rfl, hn⟩ := hn0
    walk_at "go"
    simp only [KW, List.mem_cons, List.not_mem_nil, or_false] at hkd
    rcases hkd with rfl | rfl | rfl | rfl | rfl | rfl | rfl
    · refine itF (by decide +kernel) ?_
      walk_at "go"
      refine itF (by decide +kernel) ?_
      walk_at "go"
      refine itF (by decide +kernel) ?_
      walk_at "go"
      refine ⟨by show 4 ≤ sizeLine; decide, fun t ht => ?_⟩
      exact k t _ _ _ _ (.Give a c n na hc hn) (d9.new ht) (d9.free hw ht) upd_same
    · refine itT (by decide +kernel) ?_
      walk_at "go"
      refine use_draw (n := 30) d9.well (by decide) (by decide) fun r8 H8 hr8 hr9 d10 => ?_
      have d11 := d9.trans d10
      walk_at "go"
      refine ⟨by show 3 ≤ sizeLine; decide, fun p3 hp3 => ?_⟩
      have np3 : p3 ≠ w0 := Dr.ne d11.well hp3
      have d12 := d11.new (o := .lst [.int 2, .int 31, .int (2 + r8)]) hp3
      walk_at "go"
      refine use_draw (n := 3) d12.well (by decide) (by decide) fun r9 H9 hra hrb d13 => ?_
      obtain ⟨u, h3, h4, _⟩ := atI_lt (xs := [V.int 2, .int 31, .int (2 + r8)]) hra (by show r9 < 3; exact hrb)
      refine v_ixL (SqL.of (d13.but _ _ np3 upd_same)) h3 ?_
      walk_at "go"
      have hu : ∃ z : Int, u = .int z ∧ 2 ≤ z ∧ z ≤ 31 := by
        simp only [List.mem_cons, List.not_mem_nil, or_false] at h4
        rcases h4 with rfl | rfl | rfl
        · exact ⟨_, rfl, by decide, by decide⟩
        · exact ⟨_, rfl, by decide, by decide⟩
        · exact ⟨_, rfl, by omega, by omega⟩
      obtain ⟨z, rfl, hz⟩ := hu
      have d14 := d12.trans d13
      refine ⟨by show 5 ≤ sizeLine; decide, fun t ht => ?_⟩
      exact k t _ _ _ _ (.Hold a c z n na hc hz hn) (d14.new ht) (d14.free hw ht) upd_same
    · refine itF (by decide +kernel) ?_
      walk_at "go"
      refine itT (by decide +kernel) ?_
      walk_at "go"
      refine ⟨by show 5 ≤ sizeLine; decide, fun t ht => ?_⟩
      exact k t _ _ _ _ (.Move a b c n na nb hc hn hne) (d9.new ht) (d9.free hw ht) upd_same
    · refine itF (by decide +kernel) ?_
      walk_at "go"
      refine itF (by decide +kernel) ?_
      walk_at "go"
      refine itF (by decide +kernel) ?_
      walk_at "go"
      refine ⟨by show 4 ≤ sizeLine; decide, fun t ht => ?_⟩
      exact k t _ _ _ _ (.Spend a c n na hc hn) (d9.new ht) (d9.free hw ht) upd_same
    · refine itF (by decide +kernel) ?_
      walk_at "go"
      refine itF (by decide +kernel) ?_
      walk_at "go"
      refine itT (by decide +kernel) ?_
      walk_at "go"
      refine ⟨by show 2 ≤ sizeLine; decide, fun p3 hp3 => ?_⟩
      have np3 : p3 ≠ w0 := Dr.ne d9.well hp3
      have d12 := d9.new (o := .lst [.str b, .str a]) hp3
      walk_at "go"
      refine use_draw (n := 2) d12.well (by decide) (by decide) fun r9 H9 hra hrb d13 => ?_
      obtain ⟨u, h3, h4, _⟩ := atI_lt (xs := [V.str b, .str a]) hra (by show r9 < 2; exact hrb)
      refine v_ixL (SqL.of (d13.but _ _ np3 upd_same)) h3 ?_
      walk_at "go"
      have hu : ∃ z : Str, u = .str z ∧ Nm z := by
        simp only [List.mem_cons, List.not_mem_nil, or_false] at h4
        rcases h4 with rfl | rfl
        · exact ⟨_, rfl, nb⟩
        · exact ⟨_, rfl, na⟩
      obtain ⟨z, rfl, hz⟩ := hu
      have d14 := d12.trans d13
      refine ⟨by show 5 ≤ sizeLine; decide, fun t ht => ?_⟩
      exact k t _ _ _ _ (.Promise z a c n hz na hc hn) (d14.new ht) (d14.free hw ht) upd_same
    · refine itF (by decide +kernel) ?_
      walk_at "go"
      refine itF (by decide +kernel) ?_
      walk_at "go"
      refine itF (by decide +kernel) ?_
      walk_at "go"
      refine ⟨by show 4 ≤ sizeLine; decide, fun t ht => ?_⟩
      exact k t _ _ _ _ (.Lessen a c n na hc hn) (d9.new ht) (d9.free hw ht) upd_same
    · refine itF (by decide +kernel) ?_
      walk_at "go"
      refine itF (by decide +kernel) ?_
      walk_at "go"
      refine itF (by decide +kernel) ?_
      walk_at "go"
      refine ⟨by show 4 ≤ sizeLine; decide, fun t ht => ?_⟩
      exact k t _ _ _ _ (.Out a c n na hc hn) (d9.new ht) (d9.free hw ht) upd_same
end
end Kn

set_option Elab.async false
set_option linter.all false
set_option maxRecDepth 100000
set_option maxHeartbeats 4000000
namespace Kn
open PySem PySem.Spec PyProof.Rows L2
local macro_rules | `(tactic| walk_at "go1") => `(tactic| first
  | with_reducible refine s_seq ?_
  | with_reducible refine s_var rfl ?_
  | with_reducible refine s_c ?_
  | with_reducible refine s_cons ?_
  | with_reducible refine s_nil ?_
  | with_reducible refine s_asg ?_
  | with_reducible refine s_name ?_
  | with_reducible refine s_op ?_
  | with_reducible refine s_call ?_
  | with_reducible refine s_cb ?_
  | with_reducible refine s_ret ?_
  | with_reducible refine s_drop ?_
  | with_reducible refine s_next ?_
  | with_reducible refine s_ifs ?_
  | with_reducible refine s_test ?_
  | with_reducible refine s_tB ?_
  | with_reducible refine s_blP ?_
  | with_reducible refine s_intP ?_
  | with_reducible refine iteT ?_
  | with_reducible refine iteF ?_
  | with_reducible refine ite_not ?_
  | with_reducible refine s_and ?_
  | with_reducible refine s_or ?_
  | with_reducible refine s_not ?_
  | with_reducible refine s_andV ?_
  | with_reducible refine s_orV ?_
  | with_reducible refine s_notV ?_
  | with_reducible refine s_chain ?_
  | with_reducible refine s_sub ?_
  | with_reducible refine s_bm ?_
  | with_reducible refine s_sl ?_
  | with_reducible refine s_part ?_
  | with_reducible refine s_nop ?_
  | with_reducible refine s_make ?_
  | with_reducible refine s_un ?_
  | with_reducible refine s_ifE ?_
  | with_reducible refine s_gcons ?_
  | with_reducible refine s_gnil ?_
  | with_reducible refine s_meth ?_
  | with_reducible refine s_rev ?_
  | with_reducible refine s_lc ?_
  | with_reducible refine s_rng1 ?_
  | with_reducible refine s_ilst ?_
  | with_reducible refine s_istr ?_
  | with_reducible refine s_for ?_
  | with_reducible refine s_yes ?_
  | with_reducible refine s_wipe rfl ?_
  | with_reducible refine s_kget ?_
  | with_reducible refine s_strP ?_
  | with_reducible refine s_fldS ?_
  | with_reducible refine s_fld ?_
  | with_reducible refine s_tup ?_
  | with_reducible refine s_lst ?_
  | with_reducible refine v_addI ?_
  | with_reducible refine v_subI ?_
  | with_reducible refine v_lt ?_
  | with_reducible refine v_le ?_
  | with_reducible refine v_gt ?_
  | with_reducible refine v_ge ?_
  | with_reducible refine v_eqI ?_
  | with_reducible refine v_eqS ?_
  | with_reducible refine v_neS ?_
  | with_reducible refine v_neI ?_)
local macro_rules | `(tactic| walk_at "go") => `(tactic| repeat walk_at "go1")

section
variable {w : World} {P : Program} {mg : Str → Option Value} {K : PySem.W.Frag} {base : Heap}
def ws_told (K : PySem.W.Frag) (C : Addr) (sp : Sp) : Prop := (C = He.ga K "Give" ∧ sp = sp_Give_told K) ∨ (C = He.ga K "Hold" ∧ sp = sp_Hold_told K) ∨ (C = He.ga K "Move" ∧ sp = sp_Move_told K) ∨ (C = He.ga K "Spend" ∧ sp = sp_Spend_told K) ∨ (C = He.ga K "Promise" ∧ sp = sp_Promise_told K) ∨ (C = He.ga K "Lessen" ∧ sp = sp_Lessen_told K) ∨ (C = He.ga K "Out" ∧ sp = sp_Out_told K)
theorem ways_told (T : Tx P w K mg base) : ∀ C sp, ws_told K C sp → Way P w K mg base 1 "told" C sp := by
  intro C sp h
  rcases h with ⟨rfl, rfl⟩ | ⟨rfl, rfl⟩ | ⟨rfl, rfl⟩ | ⟨rfl, rfl⟩ | ⟨rfl, rfl⟩ | ⟨rfl, rfl⟩ | ⟨rfl, rfl⟩
  · obtain ⟨⟨fd, F, b, _⟩, _⟩ := ok_Give_told (K := K) T
    exact ⟨T.c_Give, _, fd, _, T.m_Give_told, F, b⟩
  · obtain ⟨⟨fd, F, b, _⟩, _⟩ := ok_Hold_told (K := K) T
    exact ⟨T.c_Hold, _, fd, _, T.m_Hold_told, F, b⟩
  · obtain ⟨⟨fd, F, b, _⟩, _⟩ := ok_Move_told (K := K) T
    exact ⟨T.c_Move, _, fd, _, T.m_Move_told, F, b⟩
  · obtain ⟨⟨fd, F, b, _⟩, _⟩ := ok_Spend_told (K := K) T
    exact ⟨T.c_Spend, _, fd, _, T.m_Spend_told, F, b⟩
  · obtain ⟨⟨fd, F, b, _⟩, _⟩ := ok_Promise_told (K := K) T
    exact ⟨T.c_Promise, _, fd, _, T.m_Promise_told, F, b⟩
  · obtain ⟨⟨fd, F, b, _⟩, _⟩ := ok_Lessen_told (K := K) T
    exact ⟨T.c_Lessen, _, fd, _, T.m_Lessen_told, F, b⟩
  · obtain ⟨⟨fd, F, b, _⟩, _⟩ := ok_Out_told (K := K) T
    exact ⟨T.c_Out, _, fd, _, T.m_Out_told, F, b⟩

def sp_Lmade (K : PySem.W.Frag) : Sp := fun vs H Q _ => ∃ (t : Addr) (xs : List V) (C : Str) (fs : List (Str × V)), vs = [.ref t] ∧ SqT K H t xs ∧ GT xs C fs ∧ ∀ (e dx : Addr) (H' : Hp), H e = none → Same H H' → H' e = some (.ins (He.ga K C) dx fs) → Q (.ref e) H'

theorem ok_Lmade (T : Tx P w K mg base) : DefOk P w K mg base 6 ("_law_made", none) ["_law_told_here"] (sp_Lmade K) := by
  refine mkOk T.f_Lmade sc_Lmade (fun vs H Q E h => ?_) (fun _ _ _ _ _ _ us hl => match us, hl with | [_], _ => rfl) (fun cdv A outer s H vs Q E hr h => ?_)
  · obtain ⟨t, xs, C, fs, rfl, ht, hg, k⟩ := h
    rfl
  · obtain ⟨t, xs, C, fs, rfl, ht, hg, k⟩ := h
    refine ⟨_, (pss_cons (ps_if (pt_cmpR (eqK K rfl hr) (pe_ix (ixK K rfl) (pv 0) pe_int (fun _ _ => rfl)) pe_str (nomark _)) (pss_one (ps_ret (kmk (ik := "") T.mk_Give (ok_Give___init__ (K := K) T) T.g_Give (hr.mono (by decide)) pB (pa_cons (pe_ix (ixK K rfl) (pv 0) pe_int (fun _ _ => rfl)) (pa_cons (pe_ix (ixK K rfl) (pv 0) pe_int (fun _ _ => rfl)) (pa_cons (pe_ix (ixK K rfl) (pv 0) pe_int (fun _ _ => rfl)) pa_nil)))))) pss_nil)
      (pss_cons (ps_if (pt_cmpR (eqK K rfl hr) (pe_ix (ixK K rfl) (pv 0) pe_int (fun _ _ => rfl)) pe_str (nomark _)) (pss_one (ps_ret (kmk (ik := "") T.mk_Hold (ok_Hold___init__ (K := K) T) T.g_Hold (hr.mono (by decide)) pB (pa_cons (pe_ix (ixK K rfl) (pv 0) pe_int (fun _ _ => rfl)) (pa_cons (pe_ix (ixK K rfl) (pv 0) pe_int (fun _ _ => rfl)) (pa_cons (pe_ix (ixK K rfl) (pv 0) pe_int (fun _ _ => rfl)) (pa_cons (pe_ix (ixK K rfl) (pv 0) pe_int (fun _ _ => rfl)) pa_nil))))))) pss_nil)
      (pss_cons (ps_if (pt_cmpR (eqK K rfl hr) (pe_ix (ixK K rfl) (pv 0) pe_int (fun _ _ => rfl)) pe_str (nomark _)) (pss_one (ps_ret (kmk (ik := "") T.mk_Move (ok_Move___init__ (K := K) T) T.g_Move (hr.mono (by decide)) pB (pa_cons (pe_ix (ixK K rfl) (pv 0) pe_int (fun _ _ => rfl)) (pa_cons (pe_ix (ixK K rfl) (pv 0) pe_int (fun _ _ => rfl)) (pa_cons (pe_ix (ixK K rfl) (pv 0) pe_int (fun _ _ => rfl)) (pa_cons (pe_ix (ixK K rfl) (pv 0) pe_int (fun _ _ => rfl)) pa_nil))))))) pss_nil)
      (pss_cons (ps_if (pt_cmpR (eqK K rfl hr) (pe_ix (ixK K rfl) (pv 0) pe_int (fun _ _ => rfl)) pe_str (nomark _)) (pss_one (ps_ret (kmk (ik := "") T.mk_Spend (ok_Spend___init__ (K := K) T) T.g_Spend (hr.mono (by decide)) pB (pa_cons (pe_ix (ixK K rfl) (pv 0) pe_int (fun _ _ => rfl)) (pa_cons (pe_ix (ixK K rfl) (pv 0) pe_int (fun _ _ => rfl)) (pa_cons (pe_ix (ixK K rfl) (pv 0) pe_int (fun _ _ => rfl)) pa_nil)))))) pss_nil)
      (pss_cons (ps_if (pt_cmpR (eqK K rfl hr) (pe_ix (ixK K rfl) (pv 0) pe_int (fun _ _ => rfl)) pe_str (nomark _)) (pss_one (ps_ret (kmk (ik := "") T.mk_Promise (ok_Promise___init__ (K := K) T) T.g_Promise (hr.mono (by decide)) pB (pa_cons (pe_ix (ixK K rfl) (pv 0) pe_int (fun _ _ => rfl)) (pa_cons (pe_ix (ixK K rfl) (pv 0) pe_int (fun _ _ => rfl)) (pa_cons (pe_ix (ixK K rfl) (pv 0) pe_int (fun _ _ => rfl)) (pa_cons (pe_ix (ixK K rfl) (pv 0) pe_int (fun _ _ => rfl)) pa_nil))))))) pss_nil)
      (pss_cons (ps_if (pt_cmpR (eqK K rfl hr) (pe_ix (ixK K rfl) (pv 0) pe_int (fun _ _ => rfl)) pe_str (nomark _)) (pss_one (ps_ret (kmk (ik := "") T.mk_Lessen (ok_Lessen___init__ (K := K) T) T.g_Lessen (hr.mono (by decide)) pB (pa_cons (pe_ix (ixK K rfl) (pv 0) pe_int (fun _ _ => rfl)) (pa_cons (pe_ix (ixK K rfl) (pv 0) pe_int (fun _ _ => rfl)) (pa_cons (pe_ix (ixK K rfl) (pv 0) pe_int (fun _ _ => rfl)) pa_nil)))))) pss_nil)
      (pss_one (ps_ret (kmk (ik := "") T.mk_Out (ok_Out___init__ (K := K) T) T.g_Out (hr.mono (by decide)) pB (pa_cons (pe_ix (ixK K rfl) (pv 0) pe_int (fun _ _ => rfl)) (pa_cons (pe_ix (ixK K rfl) (pv 0) pe_int (fun _ _ => rfl)) (pa_cons (pe_ix (ixK K rfl) (pv 0) pe_int (fun _ _ => rfl)) pa_nil)))))))))))), ?_⟩
    walk_at "go"
    cases hg with
    | Give h c n hh hc hn  =>
      refine v_ixT ht (atI_zero) ?_
      walk_at "go"
      refine itT (by decide +kernel) ?_
      walk_at "go"
      refine v_ixT ht (atI_nat (j := 1) rfl) ?_
      walk_at "go"
      refine v_ixT ht (atI_nat (j := 2) rfl) ?_
      walk_at "go"
      refine v_ixT ht (atI_nat (j := 3) rfl) ?_
      walk_at "go"
      exact mk_Give (Knd.str (nm_len hh)) Knd.int (Knd.str (nt_len hn)) (fun _ x dx H2 h1 h2 h3 => k x dx H2 h1 h2 h3) (fun hb => absurd (okGive_gt hh hc hn ) (by rw [hb]; exact Bool.false_ne_true))
    | Hold h c u n hh hc hu hn  =>
      refine v_ixT ht (atI_zero) ?_
      walk_at "go"
      refine itF (by decide +kernel) ?_
      walk_at "go"
      refine v_ixT ht (atI_zero) ?_
      walk_at "go"
      refine itT (by decide +kernel) ?_
      walk_at "go"
      refine v_ixT ht (atI_nat (j := 1) rfl) ?_
      walk_at "go"
      refine v_ixT ht (atI_nat (j := 2) rfl) ?_
      walk_at "go"
      refine v_ixT ht (atI_nat (j := 3) rfl) ?_
      walk_at "go"
      refine v_ixT ht (atI_nat (j := 4) rfl) ?_
      walk_at "go"
      exact mk_Hold (Knd.str (nm_len hh)) Knd.int Knd.int (Knd.str (nt_len hn)) (fun _ x dx H2 h1 h2 h3 => k x dx H2 h1 h2 h3) (fun hb => absurd (okHold_gt hh hc hu hn ) (by rw [hb]; exact Bool.false_ne_true))
    | Move h o c n hh ho hc hn ne =>
      refine v_ixT ht (atI_zero) ?_
      walk_at "go"
      refine itF (by decide +kernel) ?_
      walk_at "go"
      refine v_ixT ht (atI_zero) ?_
      walk_at "go"
      refine itF (by decide +kernel) ?_
      walk_at "go"
      refine v_ixT ht (atI_zero) ?_
      walk_at "go"
      refine itT (by decide +kernel) ?_
      walk_at "go"
      refine v_ixT ht (atI_nat (j := 1) rfl) ?_
      walk_at "go"
      refine v_ixT ht (atI_nat (j := 2) rfl) ?_
      walk_at "go"
      refine v_ixT ht (atI_nat (j := 3) rfl) ?_
      walk_at "go"
      refine v_ixT ht (atI_nat (j := 4) rfl) ?_
      walk_at "go"
      exact mk_Move (Knd.str (nm_len hh)) (Knd.str (nm_len ho)) Knd.int (Knd.str (nt_len hn)) (fun _ x dx H2 h1 h2 h3 => k x dx H2 h1 h2 h3) (fun hb => absurd (okMove_gt hh ho hc hn ne) (by rw [hb]; exact Bool.false_ne_true))
    | Spend h c n hh hc hn  =>
      refine v_ixT ht (atI_zero) ?_
      walk_at "go"
      refine itF (by decide +kernel) ?_
      walk_at "go"
      refine v_ixT ht (atI_zero) ?_
      walk_at "go"
      refine itF (by decide +kernel) ?_
      walk_at "go"
      refine v_ixT ht (atI_zero) ?_
      walk_at "go"
      refine itF (by decide +kernel) ?_
      walk_at "go"
      refine v_ixT ht (atI_zero) ?_
      walk_at "go"
      refine itT (by decide +kernel) ?_
      walk_at "go"
      refine v_ixT ht (atI_nat (j := 1) rfl) ?_
      walk_at "go"
      refine v_ixT ht (atI_nat (j := 2) rfl) ?_
      walk_at "go"
      refine v_ixT ht (atI_nat (j := 3) rfl) ?_
      walk_at "go"
      exact mk_Spend (Knd.str (nm_len hh)) Knd.int (Knd.str (nt_len hn)) (fun _ x dx H2 h1 h2 h3 => k x dx H2 h1 h2 h3) (fun hb => absurd (okSpend_gt hh hc hn ) (by rw [hb]; exact Bool.false_ne_true))
    | Promise r h c n hr0 hh hc hn  =>
      refine v_ixT ht (atI_zero) ?_
      walk_at "go"
      refine itF (by decide +kernel) ?_
      walk_at "go"
      refine v_ixT ht (atI_zero) ?_
      walk_at "go"
      refine itF (by decide +kernel) ?_
      walk_at "go"
      refine v_ixT ht (atI_zero) ?_
      walk_at "go"
      refine itF (by decide +kernel) ?_
      walk_at "go"
      refine v_ixT ht (atI_zero) ?_
      walk_at "go"
      refine itF (by decide +kernel) ?_
      walk_at "go"
      refine v_ixT ht (atI_zero) ?_
      walk_at "go"
      refine itT (by decide +kernel) ?_
      walk_at "go"
      refine v_ixT ht (atI_nat (j := 1) rfl) ?_
      walk_at "go"
      refine v_ixT ht (atI_nat (j := 2) rfl) ?_
      walk_at "go"
      refine v_ixT ht (atI_nat (j := 3) rfl) ?_
      walk_at "go"
      refine v_ixT ht (atI_nat (j := 4) rfl) ?_
      walk_at "go"
      exact mk_Promise (Knd.str (nm_len hr0)) (Knd.str (nm_len hh)) Knd.int (Knd.str (nt_len hn)) (fun _ x dx H2 h1 h2 h3 => k x dx H2 h1 h2 h3) (fun hb => absurd (okPromise_gt hr0 hh hc hn ) (by rw [hb]; exact Bool.false_ne_true))
    | Lessen r c n hr0 hc hn  =>
      refine v_ixT ht (atI_zero) ?_
      walk_at "go"
      refine itF (by decide +kernel) ?_
      walk_at "go"
      refine v_ixT ht (atI_zero) ?_
      walk_at "go"
      refine itF (by decide +kernel) ?_
      walk_at "go"
      refine v_ixT ht (atI_zero) ?_
      walk_at "go"
      refine itF (by decide +kernel) ?_
      walk_at "go"
      refine v_ixT ht (atI_zero) ?_
      walk_at "go"
      refine itF (by decide +kernel) ?_
      walk_at "go"
      refine v_ixT ht (atI_zero) ?_
      walk_at "go"
      refine itF (by decide +kernel) ?_
      walk_at "go"
      refine v_ixT ht (atI_zero) ?_
      walk_at "go"
      refine itT (by decide +kernel) ?_
      walk_at "go"
      refine v_ixT ht (atI_nat (j := 1) rfl) ?_
      walk_at "go"
      refine v_ixT ht (atI_nat (j := 2) rfl) ?_
      walk_at "go"
      refine v_ixT ht (atI_nat (j := 3) rfl) ?_
      walk_at "go"
      exact mk_Lessen (Knd.str (nm_len hr0)) Knd.int (Knd.str (nt_len hn)) (fun _ x dx H2 h1 h2 h3 => k x dx H2 h1 h2 h3) (fun hb => absurd (okLessen_gt hr0 hc hn ) (by rw [hb]; exact Bool.false_ne_true))
    | Out r c n hr0 hc hn  =>
      refine v_ixT ht (atI_zero) ?_
      walk_at "go"
      refine itF (by decide +kernel) ?_
      walk_at "go"
      refine v_ixT ht (atI_zero) ?_
      walk_at "go"
      refine itF (by decide +kernel) ?_
      walk_at "go"
      refine v_ixT ht (atI_zero) ?_
      walk_at "go"
      refine itF (by decide +kernel) ?_
      walk_at "go"
      refine v_ixT ht (atI_zero) ?_
      walk_at "go"
      refine itF (by decide +kernel) ?_
      walk_at "go"
      refine v_ixT ht (atI_zero) ?_
      walk_at "go"
      refine itF (by decide +kernel) ?_
      walk_at "go"
      refine v_ixT ht (atI_zero) ?_
      walk_at "go"
      refine itF (by decide +kernel) ?_
      walk_at "go"
      refine v_ixT ht (atI_nat (j := 1) rfl) ?_
      walk_at "go"
      refine v_ixT ht (atI_nat (j := 2) rfl) ?_
      walk_at "go"
      refine v_ixT ht (atI_nat (j := 3) rfl) ?_
      walk_at "go"
      exact mk_Out (Knd.str (nm_len hr0)) Knd.int (Knd.str (nt_len hn)) (fun _ x dx H2 h1 h2 h3 => k x dx H2 h1 h2 h3) (fun hb => absurd (okOut_gt hr0 hc hn ) (by rw [hb]; exact Bool.false_ne_true))

def kbs (C : Str) : List V := [.bl (decide (("Give" : Str) = C)), .bl (decide (("Hold" : Str) = C)), .bl (decide (("Move" : Str) = C)), .bl (decide (("Spend" : Str) = C)), .bl (decide (("Promise" : Str) = C)), .bl (decide (("Lessen" : Str) = C)), .bl (decide (("Out" : Str) = C))]
def sp_Lkinds (K : PySem.W.Frag) : Sp := fun vs H Q _ => ∃ (e dx : Addr) (xs : List V) (C : Str) (fs : List (Str × V)), vs = [.ref e] ∧ GT xs C fs ∧ H e = some (.ins (He.ga K C) dx fs) ∧ ∀ (p : Addr) (H' : Hp), Same H H' → H' p = some (.lst (kbs C)) → Q (.ref p) H'

theorem ok_Lkinds (T : Tx P w K mg base) : DefOk P w K mg base 1 ("_law_kinds", none) ["_law_entry"] (sp_Lkinds K) := by
  refine mkOk T.f_Lkinds sc_Lkinds (fun vs H Q E h => ?_) (fun _ _ _ _ _ _ us hl => match us, hl with | [_], _ => rfl) (fun cdv A outer s H vs Q E hr h => ?_)
  · obtain ⟨e, dx, xs, C, fs, rfl, hg, he, k⟩ := h
    rfl
  · obtain ⟨e, dx, xs, C, fs, rfl, hg, he, k⟩ := h
    refine ⟨_, (pss_cons (ps_set (i := 1) sc_Lkinds.nd rfl (Or.inl rfl) (pe_lst (pa_cons (pe_callB (isiK K rfl) rfl T.n_isinstance (by decide +kernel) (pa_cons (pv 0) (pa_cons (kgR T.g_Give) pa_nil))) (pa_cons (pe_callB (isiK K rfl) rfl T.n_isinstance (by decide +kernel) (pa_cons (pv 0) (pa_cons (kgR T.g_Hold) pa_nil))) (pa_cons (pe_callB (isiK K rfl) rfl T.n_isinstance (by decide +kernel) (pa_cons (pv 0) (pa_cons (kgR T.g_Move) pa_nil))) (pa_cons (pe_callB (isiK K rfl) rfl T.n_isinstance (by decide +kernel) (pa_cons (pv 0) (pa_cons (kgR T.g_Spend) pa_nil))) pa_nil))))))
      (pss_one (ps_ret (pe_op kAdd (pv 1) (pe_lst (pa_cons (pe_callB (isiK K rfl) rfl T.n_isinstance (by decide +kernel) (pa_cons (pv 0) (pa_cons (kgR T.g_Promise) pa_nil))) (pa_cons (pe_callB (isiK K rfl) rfl T.n_isinstance (by decide +kernel) (pa_cons (pv 0) (pa_cons (kgR T.g_Lessen) pa_nil))) (pa_cons (pe_callB (isiK K rfl) rfl T.n_isinstance (by decide +kernel) (pa_cons (pv 0) (pa_cons (kgR T.g_Out) pa_nil))) pa_nil)))))))), ?_⟩
    walk_at "go"
    cases hg with
    | Give h c n hh hc hn  =>
      have ty := TyX.ins he T.c_Give T.i_Give
      refine v_isC ty T.k_Give_Give ?_
      walk_at "go"
      refine v_isC ty T.k_Give_Hold ?_
      walk_at "go"
      refine v_isC ty T.k_Give_Move ?_
      walk_at "go"
      refine v_isC ty T.k_Give_Spend ?_
      walk_at "go"
      refine ⟨by show 4 ≤ sizeLine; decide, fun p1 hp1 => ?_⟩
      walk_at "go"
      have s1 := Same.new (o := .lst [.bl true, .bl false, .bl false, .bl false]) hp1
      have ty1 := ty.same s1
      refine v_isC ty1 T.k_Give_Promise ?_
      walk_at "go"
      refine v_isC ty1 T.k_Give_Lessen ?_
      walk_at "go"
      refine v_isC ty1 T.k_Give_Out ?_
      walk_at "go"
      refine ⟨by show 3 ≤ sizeLine; decide, fun p2 hp2 => ?_⟩
      refine v_addL (xs := [.bl true, .bl false, .bl false, .bl false]) (by rw [upd_ne (ne_of_none upd_same hp2)]; exact upd_same) upd_same (by show 7 ≤ sizeLine; decide) fun p3 hp3 => ?_
      exact k p3 _ (s1.trans ((Same.new hp2).trans (Same.new hp3))) (by rw [upd_same]; congr 1)
    | Hold h c u n hh hc hu hn  =>
      have ty := TyX.ins he T.c_Hold T.i_Hold
      refine v_isC ty T.k_Hold_Give ?_
      walk_at "go"
      refine v_isC ty T.k_Hold_Hold ?_
      walk_at "go"
      refine v_isC ty T.k_Hold_Move ?_
      walk_at "go"
      refine v_isC ty T.k_Hold_Spend ?_
      walk_at "go"
      refine ⟨by show 4 ≤ sizeLine; decide, fun p1 hp1 => ?_⟩
      walk_at "go"
      have s1 := Same.new (o := .lst [.bl false, .bl true, .bl false, .bl false]) hp1
      have ty1 := ty.same s1
      refine v_isC ty1 T.k_Hold_Promise ?_
      walk_at "go"
      refine v_isC ty1 T.k_Hold_Lessen ?_
      walk_at "go"
      refine v_isC ty1 T.k_Hold_Out ?_
      walk_at "go"
      refine ⟨by show 3 ≤ sizeLine; decide, fun p2 hp2 => ?_⟩
      refine v_addL (xs := [.bl false, .bl true, .bl false, .bl false]) (by rw [upd_ne (ne_of_none upd_same hp2)]; exact upd_same) upd_same (by show 7 ≤ sizeLine; decide) fun p3 hp3 => ?_
      exact k p3 _ (s1.trans ((Same.new hp2).trans (Same.new hp3))) (by rw [upd_same]; congr 1)
    | Move h o c n hh ho hc hn ne =>
      have ty := TyX.ins he T.c_Move T.i_Move
      refine v_isC ty T.k_Move_Give ?_
      walk_at "go"
      refine v_isC ty T.k_Move_Hold ?_
      walk_at "go"
      refine v_isC ty T.k_Move_Move ?_
      walk_at "go"
      refine v_isC ty T.k_Move_Spend ?_
      walk_at "go"
      refine ⟨by show 4 ≤ sizeLine; decide, fun p1 hp1 => ?_⟩
      walk_at "go"
      have s1 := Same.new (o := .lst [.bl false, .bl false, .bl true, .bl false]) hp1
      have ty1 := ty.same s1
      refine v_isC ty1 T.k_Move_Promise ?_
      walk_at "go"
      refine v_isC ty1 T.k_Move_Lessen ?_
      walk_at "go"
      refine v_isC ty1 T.k_Move_Out ?_
      walk_at "go"
      refine ⟨by show 3 ≤ sizeLine; decide, fun p2 hp2 => ?_⟩
      refine v_addL (xs := [.bl false, .bl false, .bl true, .bl false]) (by rw [upd_ne (ne_of_none upd_same hp2)]; exact upd_same) upd_same (by show 7 ≤ sizeLine; decide) fun p3 hp3 => ?_
      exact k p3 _ (s1.trans ((Same.new hp2).trans (Same.new hp3))) (by rw [upd_same]; congr 1)
    | Spend h c n hh hc hn  =>
      have ty := TyX.ins he T.c_Spend T.i_Spend
      refine v_isC ty T.k_Spend_Give ?_
      walk_at "go"
      refine v_isC ty T.k_Spend_Hold ?_
      walk_at "go"
      refine v_isC ty T.k_Spend_Move ?_
      walk_at "go"
      refine v_isC ty T.k_Spend_Spend ?_
      walk_at "go"
      refine ⟨by show 4 ≤ sizeLine; decide, fun p1 hp1 => ?_⟩
      walk_at "go"
      have s1 := Same.new (o := .lst [.bl false, .bl false, .bl false, .bl true]) hp1
      have ty1 := ty.same s1
      refine v_isC ty1 T.k_Spend_Promise ?_
      walk_at "go"
      refine v_isC ty1 T.k_Spend_Lessen ?_
      walk_at "go"
      refine v_isC ty1 T.k_Spend_Out ?_
      walk_at "go"
      refine ⟨by show 3 ≤ sizeLine; decide, fun p2 hp2 => ?_⟩
      refine v_addL (xs := [.bl false, .bl false, .bl false, .bl true]) (by rw [upd_ne (ne_of_none upd_same hp2)]; exact upd_same) upd_same (by show 7 ≤ sizeLine; decide) fun p3 hp3 => ?_
      exact k p3 _ (s1.trans ((Same.new hp2).trans (Same.new hp3))) (by rw [upd_same]; congr 1)
    | Promise r h c n hr0 hh hc hn  =>
      have ty := TyX.ins he T.c_Promise T.i_Promise
      refine v_isC ty T.k_Promise_Give ?_
      walk_at "go"
      refine v_isC ty T.k_Promise_Hold ?_
      walk_at "go"
      refine v_isC ty T.k_Promise_Move ?_
      walk_at "go"
      refine v_isC ty T.k_Promise_Spend ?_
      walk_at "go"
      refine ⟨by show 4 ≤ sizeLine; decide, fun p1 hp1 => ?_⟩
      walk_at "go"
      have s1 := Same.new (o := .lst [.bl false, .bl false, .bl false, .bl false]) hp1
      have ty1 := ty.same s1
      refine v_isC ty1 T.k_Promise_Promise ?_
      walk_at "go"
      refine v_isC ty1 T.k_Promise_Lessen ?_
      walk_at "go"
      refine v_isC ty1 T.k_Promise_Out ?_
      walk_at "go"
      refine ⟨by show 3 ≤ sizeLine; decide, fun p2 hp2 => ?_⟩
      refine v_addL (xs := [.bl false, .bl false, .bl false, .bl false]) (by rw [upd_ne (ne_of_none upd_same hp2)]; exact upd_same) upd_same (by show 7 ≤ sizeLine; decide) fun p3 hp3 => ?_
      exact k p3 _ (s1.trans ((Same.new hp2).trans (Same.new hp3))) (by rw [upd_same]; congr 1)
    | Lessen r c n hr0 hc hn  =>
      have ty := TyX.ins he T.c_Lessen T.i_Lessen
      refine v_isC ty T.k_Lessen_Give ?_
      walk_at "go"
      refine v_isC ty T.k_Lessen_Hold ?_
      walk_at "go"
      refine v_isC ty T.k_Lessen_Move ?_
      walk_at "go"
      refine v_isC ty T.k_Lessen_Spend ?_
      walk_at "go"
      refine ⟨by show 4 ≤ sizeLine; decide, fun p1 hp1 => ?_⟩
      walk_at "go"
      have s1 := Same.new (o := .lst [.bl false, .bl false, .bl false, .bl false]) hp1
      have ty1 := ty.same s1
      refine v_isC ty1 T.k_Lessen_Promise ?_
      walk_at "go"
      refine v_isC ty1 T.k_Lessen_Lessen ?_
      walk_at "go"
      refine v_isC ty1 T.k_Lessen_Out ?_
      walk_at "go"
      refine ⟨by show 3 ≤ sizeLine; decide, fun p2 hp2 => ?_⟩
      refine v_addL (xs := [.bl false, .bl false, .bl false, .bl false]) (by rw [upd_ne (ne_of_none upd_same hp2)]; exact upd_same) upd_same (by show 7 ≤ sizeLine; decide) fun p3 hp3 => ?_
      exact k p3 _ (s1.trans ((Same.new hp2).trans (Same.new hp3))) (by rw [upd_same]; congr 1)
    | Out r c n hr0 hc hn  =>
      have ty := TyX.ins he T.c_Out T.i_Out
      refine v_isC ty T.k_Out_Give ?_
      walk_at "go"
      refine v_isC ty T.k_Out_Hold ?_
      walk_at "go"
      refine v_isC ty T.k_Out_Move ?_
      walk_at "go"
      refine v_isC ty T.k_Out_Spend ?_
      walk_at "go"
      refine ⟨by show 4 ≤ sizeLine; decide, fun p1 hp1 => ?_⟩
      walk_at "go"
      have s1 := Same.new (o := .lst [.bl false, .bl false, .bl false, .bl false]) hp1
      have ty1 := ty.same s1
      refine v_isC ty1 T.k_Out_Promise ?_
      walk_at "go"
      refine v_isC ty1 T.k_Out_Lessen ?_
      walk_at "go"
      refine v_isC ty1 T.k_Out_Out ?_
      walk_at "go"
      refine ⟨by show 3 ≤ sizeLine; decide, fun p2 hp2 => ?_⟩
      refine v_addL (xs := [.bl false, .bl false, .bl false, .bl false]) (by rw [upd_ne (ne_of_none upd_same hp2)]; exact upd_same) upd_same (by show 7 ≤ sizeLine; decide) fun p3 hp3 => ?_
      exact k p3 _ (s1.trans ((Same.new hp2).trans (Same.new hp3))) (by rw [upd_same]; congr 1)

def sp_Lfields (K : PySem.W.Frag) : Sp := fun vs H Q _ => ∃ (e dx : Addr) (xs : List V) (C : Str) (fs : List (Str × V)) (x0 : V), vs = [.ref e, x0] ∧ GT xs C fs ∧ xs[0]? = some x0 ∧ H e = some (.ins (He.ga K C) dx fs) ∧ ∀ (p : Addr) (H' : Hp), Same H H' → H' p = some (.tup xs) → Q (.ref p) H'

theorem ok_Lfields (T : Tx P w K mg base) : DefOk P w K mg base 1 ("_law_fields", none) ["_law_entry", "_law_kind"] (sp_Lfields K) := by
  refine mkOk T.f_Lfields sc_Lfields (fun vs H Q E h => ?_) (fun _ _ _ _ _ _ us hl => match us, hl with | [_, _], _ => rfl) (fun cdv A outer s H vs Q E hr h => ?_)
  · obtain ⟨e, dx, xs, C, fs, x0, rfl, hg, h0, he, k⟩ := h
    rfl
  · obtain ⟨e, dx, xs, C, fs, x0, rfl, hg, h0, he, k⟩ := h
    refine ⟨_, (pss_cons (ps_if (pt_cmpR (eqK K rfl hr) (pv 1) pe_str (nomark _)) (pss_one (ps_ret (pe_tup (pa_cons (pv 1) (pa_cons (fldK K rfl (pv 0) rfl) (pa_cons (fldK K rfl (pv 0) rfl) (pa_cons (fldK K rfl (pv 0) rfl) (pa_cons (fldK K rfl (pv 0) rfl) pa_nil)))))))) pss_nil)
      (pss_cons (ps_if (pt_cmpR (eqK K rfl hr) (pv 1) pe_str (nomark _)) (pss_one (ps_ret (pe_tup (pa_cons (pv 1) (pa_cons (fldK K rfl (pv 0) rfl) (pa_cons (fldK K rfl (pv 0) rfl) (pa_cons (fldK K rfl (pv 0) rfl) (pa_cons (fldK K rfl (pv 0) rfl) pa_nil)))))))) pss_nil)
      (pss_cons (ps_if (pt_cmpR (eqK K rfl hr) (pv 1) pe_str (nomark _)) (pss_one (ps_ret (pe_tup (pa_cons (pv 1) (pa_cons (fldK K rfl (pv 0) rfl) (pa_cons (fldK K rfl (pv 0) rfl) (pa_cons (fldK K rfl (pv 0) rfl) (pa_cons (fldK K rfl (pv 0) rfl) pa_nil)))))))) pss_nil)
      (pss_cons (ps_if (PW.pt (pw_or (pt_cmpR (eqK K rfl hr) (pv 1) pe_str (nomark _)) (pw_or1 (pt_cmpR (eqK K rfl hr) (pv 1) pe_str (nomark _))))) (pss_one (ps_ret (pe_tup (pa_cons (pv 1) (pa_cons (fldK K rfl (pv 0) rfl) (pa_cons (fldK K rfl (pv 0) rfl) (pa_cons (fldK K rfl (pv 0) rfl) pa_nil))))))) pss_nil)
      (pss_one (ps_ret (pe_tup (pa_cons (pv 1) (pa_cons (fldK K rfl (pv 0) rfl) (pa_cons (fldK K rfl (pv 0) rfl) (pa_cons (fldK K rfl (pv 0) rfl) pa_nil))))))))))), ?_⟩
    cases hg with
    | Give h c n hh hc hn  =>
      obtain rfl := Option.some.inj h0
      walk_at "go"
      refine itF (by decide +kernel) ?_
      walk_at "go"
      refine itF (by decide +kernel) ?_
      walk_at "go"
      refine itF (by decide +kernel) ?_
      walk_at "go"
      refine itF (by decide +kernel) ?_
      walk_at "go"
      refine itF (by decide +kernel) ?_
      walk_at "go"
      refine v_fld he T.c_Give T.a_Give_head (by rfl) ?_
      walk_at "go"
      refine v_fld he T.c_Give T.a_Give_coins (by rfl) ?_
      walk_at "go"
      refine v_fld he T.c_Give T.a_Give_note (by rfl) ?_
      walk_at "go"
      exact ⟨by show 4 ≤ sizeLine; decide, fun t ht => k t _ (Same.new ht) upd_same⟩
    | Hold h c u n hh hc hu hn  =>
      obtain rfl := Option.some.inj h0
      walk_at "go"
      refine itT (by decide +kernel) ?_
      walk_at "go"
      refine v_fld he T.c_Hold T.a_Hold_head (by rfl) ?_
      walk_at "go"
      refine v_fld he T.c_Hold T.a_Hold_coins (by rfl) ?_
      walk_at "go"
      refine v_fld he T.c_Hold T.a_Hold_until (by rfl) ?_
      walk_at "go"
      refine v_fld he T.c_Hold T.a_Hold_note (by rfl) ?_
      walk_at "go"
      exact ⟨by show 5 ≤ sizeLine; decide, fun t ht => k t _ (Same.new ht) upd_same⟩
    | Move h o c n hh ho hc hn ne =>
      obtain rfl := Option.some.inj h0
      walk_at "go"
      refine itF (by decide +kernel) ?_
      walk_at "go"
      refine itT (by decide +kernel) ?_
      walk_at "go"
      refine v_fld he T.c_Move T.a_Move_head (by rfl) ?_
      walk_at "go"
      refine v_fld he T.c_Move T.a_Move_other (by rfl) ?_
      walk_at "go"
      refine v_fld he T.c_Move T.a_Move_coins (by rfl) ?_
      walk_at "go"
      refine v_fld he T.c_Move T.a_Move_note (by rfl) ?_
      walk_at "go"
      exact ⟨by show 5 ≤ sizeLine; decide, fun t ht => k t _ (Same.new ht) upd_same⟩
    | Spend h c n hh hc hn  =>
      obtain rfl := Option.some.inj h0
      walk_at "go"
      refine itF (by decide +kernel) ?_
      walk_at "go"
      refine itF (by decide +kernel) ?_
      walk_at "go"
      refine itF (by decide +kernel) ?_
      walk_at "go"
      refine itF (by decide +kernel) ?_
      walk_at "go"
      refine itF (by decide +kernel) ?_
      walk_at "go"
      refine v_fld he T.c_Spend T.a_Spend_head (by rfl) ?_
      walk_at "go"
      refine v_fld he T.c_Spend T.a_Spend_coins (by rfl) ?_
      walk_at "go"
      refine v_fld he T.c_Spend T.a_Spend_note (by rfl) ?_
      walk_at "go"
      exact ⟨by show 4 ≤ sizeLine; decide, fun t ht => k t _ (Same.new ht) upd_same⟩
    | Promise r h c n hr0 hh hc hn  =>
      obtain rfl := Option.some.inj h0
      walk_at "go"
      refine itF (by decide +kernel) ?_
      walk_at "go"
      refine itF (by decide +kernel) ?_
      walk_at "go"
      refine itT (by decide +kernel) ?_
      walk_at "go"
      refine v_fld he T.c_Promise T.a_Promise_word (by rfl) ?_
      walk_at "go"
      refine v_fld he T.c_Promise T.a_Promise_head (by rfl) ?_
      walk_at "go"
      refine v_fld he T.c_Promise T.a_Promise_coins (by rfl) ?_
      walk_at "go"
      refine v_fld he T.c_Promise T.a_Promise_note (by rfl) ?_
      walk_at "go"
      exact ⟨by show 5 ≤ sizeLine; decide, fun t ht => k t _ (Same.new ht) upd_same⟩
    | Lessen r c n hr0 hc hn  =>
      obtain rfl := Option.some.inj h0
      walk_at "go"
      refine itF (by decide +kernel) ?_
      walk_at "go"
      refine itF (by decide +kernel) ?_
      walk_at "go"
      refine itF (by decide +kernel) ?_
      walk_at "go"
      refine itT (by decide +kernel) ?_
      walk_at "go"
      refine v_fld he T.c_Lessen T.a_Lessen_word (by rfl) ?_
      walk_at "go"
      refine v_fld he T.c_Lessen T.a_Lessen_coins (by rfl) ?_
      walk_at "go"
      refine v_fld he T.c_Lessen T.a_Lessen_note (by rfl) ?_
      walk_at "go"
      exact ⟨by show 4 ≤ sizeLine; decide, fun t ht => k t _ (Same.new ht) upd_same⟩
    | Out r c n hr0 hc hn  =>
      obtain rfl := Option.some.inj h0
      walk_at "go"
      refine itF (by decide +kernel) ?_
      walk_at "go"
      refine itF (by decide +kernel) ?_
      walk_at "go"
      refine itF (by decide +kernel) ?_
      walk_at "go"
      refine itF (by decide +kernel) ?_
      walk_at "go"
      refine itT (by decide +kernel) ?_
      walk_at "go"
      refine v_fld he T.c_Out T.a_Out_word (by rfl) ?_
      walk_at "go"
      refine v_fld he T.c_Out T.a_Out_coins (by rfl) ?_
      walk_at "go"
      refine v_fld he T.c_Out T.a_Out_note (by rfl) ?_
      walk_at "go"
      exact ⟨by show 4 ≤ sizeLine; decide, fun t ht => k t _ (Same.new ht) upd_same⟩
end
end Kn

set_option Elab.async false
set_option linter.all false
set_option maxRecDepth 100000
set_option maxHeartbeats 4000000
namespace Kn
open PySem PySem.Spec PyProof.Rows L2
local macro_rules | `(tactic| walk_at "go1") => `(tactic| first
  | with_reducible refine s_seq ?_
  | with_reducible refine s_var rfl ?_
  | with_reducible refine s_c ?_
  | with_reducible refine s_cons ?_
  | with_reducible refine s_nil ?_
  | with_reducible refine s_asg ?_
  | with_reducible refine s_name ?_
  | with_reducible refine s_op ?_
  | with_reducible refine s_call ?_
  | with_reducible refine s_cb ?_
  | with_reducible refine s_ret ?_
  | with_reducible refine s_drop ?_
  | with_reducible refine s_next ?_
  | with_reducible refine s_ifs ?_
  | with_reducible refine s_test ?_
  | with_reducible refine s_tB ?_
  | with_reducible refine s_blP ?_
  | with_reducible refine s_intP ?_
  | with_reducible refine iteT ?_
  | with_reducible refine iteF ?_
  | with_reducible refine ite_not ?_
  | with_reducible refine s_and ?_
  | with_reducible refine s_or ?_
  | with_reducible refine s_not ?_
  | with_reducible refine s_andV ?_
  | with_reducible refine s_orV ?_
  | with_reducible refine s_notV ?_
  | with_reducible refine s_chain ?_
  | with_reducible refine s_sub ?_
  | with_reducible refine s_bm ?_
  | with_reducible refine s_sl ?_
  | with_reducible refine s_part ?_
  | with_reducible refine s_nop ?_
  | with_reducible refine s_make ?_
  | with_reducible refine s_un ?_
  | with_reducible refine s_ifE ?_
  | with_reducible refine s_gcons ?_
  | with_reducible refine s_gnil ?_
  | with_reducible refine s_meth ?_
  | with_reducible refine s_rev ?_
  | with_reducible refine s_lc ?_
  | with_reducible refine s_rng1 ?_
  | with_reducible refine s_ilst ?_
  | with_reducible refine s_istr ?_
  | with_reducible refine s_for ?_
  | with_reducible refine s_yes ?_
  | with_reducible refine s_wipe rfl ?_
  | with_reducible refine s_kget ?_
  | with_reducible refine s_strP ?_
  | with_reducible refine s_fldS ?_
  | with_reducible refine s_fld ?_
  | with_reducible refine s_tup ?_
  | with_reducible refine s_lst ?_
  | with_reducible refine v_addI ?_
  | with_reducible refine v_subI ?_
  | with_reducible refine v_lt ?_
  | with_reducible refine v_le ?_
  | with_reducible refine v_gt ?_
  | with_reducible refine v_ge ?_
  | with_reducible refine v_eqI ?_
  | with_reducible refine v_eqS ?_
  | with_reducible refine v_neS ?_
  | with_reducible refine v_neI ?_)
local macro_rules | `(tactic| walk_at "go") => `(tactic| repeat walk_at "go1")

section
variable {w : World} {P : Program} {mg : Str → Option Value} {K : PySem.W.Frag} {base : Heap}
theorem gt_entry (T : Tx P w K mg base) {xs : List V} {C : Str} {fs : List (Str × V)} (h : GT xs C fs) : PySem.W.kitOne K (.ref (He.ga K C)) (.ref (He.ga K "Entry")) = some true := by
  cases h with
  | Give h c n hh hc hn  => exact T.k_Give_Entry
  | Hold h c u n hh hc hu hn  => exact T.k_Hold_Entry
  | Move h o c n hh ho hc hn ne => exact T.k_Move_Entry
  | Spend h c n hh hc hn  => exact T.k_Spend_Entry
  | Promise r h c n hr0 hh hc hn  => exact T.k_Promise_Entry
  | Lessen r c n hr0 hc hn  => exact T.k_Lessen_Entry
  | Out r c n hr0 hc hn  => exact T.k_Out_Entry
theorem gt_ty (T : Tx P w K mg base) {xs : List V} {C : Str} {fs : List (Str × V)} {H : Hp} {e dx : Addr} (h : GT xs C fs) (he : H e = some (.ins (He.ga K C) dx fs)) : TyX K H (.ref e) (.ref (He.ga K C)) := by
  cases h with
  | Give h c n hh hc hn  => exact TyX.ins he T.c_Give T.i_Give
  | Hold h c u n hh hc hu hn  => exact TyX.ins he T.c_Hold T.i_Hold
  | Move h o c n hh ho hc hn ne => exact TyX.ins he T.c_Move T.i_Move
  | Spend h c n hh hc hn  => exact TyX.ins he T.c_Spend T.i_Spend
  | Promise r h c n hr0 hh hc hn  => exact TyX.ins he T.c_Promise T.i_Promise
  | Lessen r c n hr0 hc hn  => exact TyX.ins he T.c_Lessen T.i_Lessen
  | Out r c n hr0 hc hn  => exact TyX.ins he T.c_Out T.i_Out
theorem gt_told {xs : List V} {C : Str} {fs : List (Str × V)} {H : Hp} {e dx : Addr} {Q : VK} {E : XK} (h : GT xs C fs) (he : H e = some (.ins (He.ga K C) dx fs)) (k : ∀ t, H t = none → Q (.ref t) (upd H t (.tup xs))) :
    ∃ sp, ws_told K (He.ga K C) sp ∧ fs.lookup ("told" : Str) = none ∧ sp [.ref e] H Q E := by
  cases h with
  | Give h c n hh hc hn  => exact ⟨_, .inl ⟨rfl, rfl⟩, by rfl, e, dx, _, _, _, rfl, he, k⟩
  | Hold h c u n hh hc hu hn  => exact ⟨_, .inr (.inl ⟨rfl, rfl⟩), by rfl, e, dx, _, _, _, _, rfl, he, k⟩
  | Move h o c n hh ho hc hn ne => exact ⟨_, .inr (.inr (.inl ⟨rfl, rfl⟩)), by rfl, e, dx, _, _, _, _, rfl, he, k⟩
  | Spend h c n hh hc hn  => exact ⟨_, .inr (.inr (.inr (.inl ⟨rfl, rfl⟩))), by rfl, e, dx, _, _, _, rfl, he, k⟩
  | Promise r h c n hr0 hh hc hn  => exact ⟨_, .inr (.inr (.inr (.inr (.inl ⟨rfl, rfl⟩)))), by rfl, e, dx, _, _, _, _, rfl, he, k⟩
  | Lessen r c n hr0 hc hn  => exact ⟨_, .inr (.inr (.inr (.inr (.inr (.inl ⟨rfl, rfl⟩))))), by rfl, e, dx, _, _, _, rfl, he, k⟩
  | Out r c n hr0 hc hn  => exact ⟨_, .inr (.inr (.inr (.inr (.inr (.inr (⟨rfl, rfl⟩)))))), by rfl, e, dx, _, _, _, rfl, he, k⟩
theorem use_toldm {xs : List V} {C : Str} {fs : List (Str × V)} {H : Hp} {e dx : Addr} {Q : VK} {E : XK} {σ : L2.St} (h : GT xs C fs) (he : H e = some (.ins (He.ga K C) dx fs)) (k : ∀ t, H t = none → Q (.ref t) (upd H t (.tup xs))) :
    ∃ a C dx fs sp, V.ref e = .ref a ∧ H a = some (.ins C dx fs) ∧ ws_told K C sp ∧ fs.lookup ("told" : Str) = none ∧ tNil σ H fun vs H2 => sp (.ref e :: vs) H2 Q E := by
  obtain ⟨sp, h1, h2, h3⟩ := gt_told (E := E) h he k
  exact ⟨e, _, dx, fs, sp, rfl, he, h1, h2, h3⟩
theorem gt_w {xs : List V} {C : Str} {fs : List (Str × V)} (h : GT xs C fs) : ∃ w, xs[0]? = some (.str w) ∧ KW.map (fun k => V.bl (decide (k = w))) = kbs C := by
  cases h with
  | Give h c n hh hc hn  => exact ⟨_, rfl, by decide +kernel⟩
  | Hold h c u n hh hc hu hn  => exact ⟨_, rfl, by decide +kernel⟩
  | Move h o c n hh ho hc hn ne => exact ⟨_, rfl, by decide +kernel⟩
  | Spend h c n hh hc hn  => exact ⟨_, rfl, by decide +kernel⟩
  | Promise r h c n hr0 hh hc hn  => exact ⟨_, rfl, by decide +kernel⟩
  | Lessen r c n hr0 hc hn  => exact ⟨_, rfl, by decide +kernel⟩
  | Out r c n hr0 hc hn  => exact ⟨_, rfl, by decide +kernel⟩
theorem gt_nobl {xs : List V} {C : Str} {fs : List (Str × V)} (h : GT xs C fs) : ∀ x ∈ xs, blB x = false := by
  cases h with
  | Give h c n hh hc hn  => intro x hx; simp only [List.mem_cons, List.not_mem_nil, or_false] at hx; rcases hx with rfl | rfl | rfl | rfl <;> rfl
  | Hold h c u n hh hc hu hn  => intro x hx; simp only [List.mem_cons, List.not_mem_nil, or_false] at hx; rcases hx with rfl | rfl | rfl | rfl | rfl <;> rfl
  | Move h o c n hh ho hc hn ne => intro x hx; simp only [List.mem_cons, List.not_mem_nil, or_false] at hx; rcases hx with rfl | rfl | rfl | rfl | rfl <;> rfl
  | Spend h c n hh hc hn  => intro x hx; simp only [List.mem_cons, List.not_mem_nil, or_false] at hx; rcases hx with rfl | rfl | rfl | rfl <;> rfl
  | Promise r h c n hr0 hh hc hn  => intro x hx; simp only [List.mem_cons, List.not_mem_nil, or_false] at hx; rcases hx with rfl | rfl | rfl | rfl | rfl <;> rfl
  | Lessen r c n hr0 hc hn  => intro x hx; simp only [List.mem_cons, List.not_mem_nil, or_false] at hx; rcases hx with rfl | rfl | rfl | rfl <;> rfl
  | Out r c n hr0 hc hn  => intro x hx; simp only [List.mem_cons, List.not_mem_nil, or_false] at hx; rcases hx with rfl | rfl | rfl | rfl <;> rfl
theorem gt_len {xs : List V} {C : Str} {fs : List (Str × V)} (h : GT xs C fs) : xs.length ≤ 5 := by
  cases h with
  | Give h c n hh hc hn  => show 4 ≤ 5; decide
  | Hold h c u n hh hc hu hn  => show 5 ≤ 5; decide
  | Move h o c n hh ho hc hn ne => show 5 ≤ 5; decide
  | Spend h c n hh hc hn  => show 4 ≤ 5; decide
  | Promise r h c n hr0 hh hc hn  => show 5 ≤ 5; decide
  | Lessen r c n hr0 hc hn  => show 4 ≤ 5; decide
  | Out r c n hr0 hc hn  => show 4 ≤ 5; decide
theorem kbs_sc {C : Str} : (kbs C).all scB = true := rfl
theorem kt_tuple : kitB "tuple" "tuple" = some true := by decide +kernel
def sp_Lis (K : PySem.W.Frag) : Sp := fun vs H Q _ => ∃ (e dx t : Addr) (xs : List V) (C : Str) (fs : List (Str × V)), vs = [.ref e, .ref t] ∧ GT xs C fs ∧ H e = some (.ins (He.ga K C) dx fs) ∧ H t = some (.tup xs) ∧ ∀ H', Same H H' → Q (.bl true) H'

theorem ok_Lis (T : Tx P w K mg base) : DefOk P w K mg base 2 ("_law_is", none) ["_law_entry", "_law_told_here"] (sp_Lis K) := by
  refine mkOk T.f_Lis sc_Lis (fun vs H Q E h => ?_) (fun _ _ _ _ _ _ us hl => match us, hl with | [_, _], _ => rfl) (fun cdv A outer s H vs Q E hr h => ?_)
  · obtain ⟨e, dx, t, xs, C, fs, rfl, hg, he, ht, k⟩ := h
    rfl
  · obtain ⟨e, dx, t, xs, C, fs, rfl, hg, he, ht, k⟩ := h
    refine ⟨_, (pss_cons (ps_set (i := 2) sc_Lis.nd rfl (Or.inl rfl) (pe_lst (pa_cons pe_str (pa_cons pe_str (pa_cons pe_str (pa_cons pe_str (pa_cons pe_str (pa_cons pe_str (pa_cons pe_str pa_nil)))))))))
      (pss_cons (ps_if (PW.pt (pw_or (pt_not (pt_val (pe_callB (isiK K rfl) rfl T.n_isinstance (by decide +kernel) (pa_cons (pv 0) (pa_cons (kgR T.g_Entry) pa_nil))))) (pw_or1 (pt_cmpR (neK K rfl hr) (kc (ok_Lkinds (K := K) T) T.g__law_kinds (hr.mono (by decide)) pB (pa_cons (pv 0) pa_nil)) (pe_lc (own := [("_law_kind", 4)]) rfl sc_Lis.nd (psqK K rfl (pv 2)) (blkOk_by (N := nm_Lis) (sc := defScope s_Lis) (by decide +kernel)) (fun _ _ _ _ _ => (pg_name (i := 4) sc_Lis.nd rfl (Or.inl rfl))) (fun _ _ _ _ _ => pts_nil) (fun _ _ _ _ _ => (pe_cmpR (eqK K rfl hr) (pv 4) (pe_ix (ixK K rfl) (pv 1) pe_int (fun _ _ => rfl)) (nomark _)))) (nomark _))))) (pss_one (ps_ret pe_bl)) pss_nil)
      (pss_cons (ps_set (i := 3) sc_Lis.nd rfl (Or.inl rfl) (kme0 (pv 0) (ways_told (K := K) T) (hr.mono (by decide)) pB))
      (pss_cons (ps_if (PW.pt (pw_or (pt_not (pt_val (pe_callB (isiK K rfl) rfl T.n_isinstance (by decide +kernel) (pa_cons (pv 3) (pa_cons (kbT (n := "tuple") T.n_tuple (by decide +kernel)) pa_nil))))) (pw_or1 (pt_cmpR (neK K rfl hr) (pe_lc (own := [("_law_one", 5)]) rfl sc_Lis.nd (psqK K rfl (pv 3)) (blkOk_by (N := nm_Lis) (sc := defScope s_Lis) (by decide +kernel)) (fun _ _ _ _ _ => (pg_name (i := 5) sc_Lis.nd rfl (Or.inl rfl))) (fun _ _ _ _ _ => (pts_one (pt_val (pe_callB (isiK K rfl) rfl T.n_isinstance (by decide +kernel) (pa_cons (pv 5) (pa_cons (kbT (n := "bool") T.n_bool (by decide +kernel)) pa_nil)))))) (fun _ _ _ _ _ => (pv 5))) (pe_lst pa_nil) (nomark _))))) (pss_one (ps_ret pe_bl)) pss_nil)
      (pss_one (ps_ret (pe_and (pe_cmpR (eqK K rfl hr) (pv 3) (pv 1) (nomark _)) (pe_one (pe_cmpR (eqK K rfl hr) (kc (ok_Lfields (K := K) T) T.g__law_fields (hr.mono (by decide)) pB (pa_cons (pv 0) (pa_cons (pe_ix (ixK K rfl) (pv 1) pe_int (fun _ _ => rfl)) pa_nil))) (pv 1) (nomark _)))))))))), ?_⟩
    obtain ⟨w0, hw0, hkb⟩ := gt_w hg
    walk_at "go"
    refine ⟨by show 7 ≤ sizeLine; decide, fun p1 hp1 => ?_⟩
    have s1 := Same.new (o := .lst (KW.map V.str)) hp1
    walk_at "go"
    refine v_isC (gt_ty T hg (s1.at_ he)) (gt_entry T hg) ?_
    walk_at "go"
    refine ⟨e, dx, xs, C, fs, rfl, hg, s1.at_ he, fun p2 H2 s2 hp2 => ?_⟩
    walk_at "go"
    refine s_isL ?_
    walk_at "go"
    have hkl : H2 p1 = some (.lst (KW.map V.str)) := s2.at_ upd_same
    refine ⟨p1, rfl, ⟨_, SqL.of hkl⟩, fun D3 hD3 => lc_it (walk_list (xs := KW.map V.str)) (fun i H' => Same H2 H' ∧ H' D3 = some (.lst ((KW.take i).map fun k => V.bl (decide (k = w0))))) ?_ (fun _ _ _ h => SqL.of (h.1.at_ hkl)) ?_ ?_⟩
    · exact ⟨Same.new hD3, upd_same⟩
    · rintro i x H3 H3' hi ⟨s3, q3⟩ ⟨rfl, hx⟩
      rw [List.getElem?_map] at hx
      obtain ⟨kd, hk, rfl⟩ := Option.map_eq_some_iff.mp hx
      walk_at "go"
      refine v_ixT (SqT.of ((s1.trans (s2.trans s3)).at_ ht)) (atI_nat (j := 0) hw0) ?_
      walk_at "go"
      refine ⟨_, q3, ?_, s3.mut hD3, ?_⟩
      · rw [List.length_map]
        exact Nat.lt_of_le_of_lt (List.length_take_le _ _) (Nat.lt_of_lt_of_le hi (by decide))
      · rw [upd_same, List.take_add_one, hk, List.map_append]
        rfl
    rintro H4 ⟨s3, q4⟩
    rw [List.take_of_length_le (by decide), hkb] at q4
    have s4 := s1.trans (s2.trans s3)
    refine v_neLL (SqL.of (s3.at_ hp2)) (SqL.of q4) kbs_sc ?_
    walk_at "go"
    refine use_toldm hg (s4.at_ he) fun t2 ht2 => ?_
    have s5 := s4.trans (Same.new (o := .tup xs) ht2)
    walk_at "go"
    refine v_isi (.base (.tup upd_same)) (kit_ty kt_tuple) ?_
    walk_at "go"
    refine s_isT ?_
    walk_at "go"
    refine ⟨t2, rfl, ⟨_, SqT.of upd_same⟩, fun D5 hD5 => lc_it (walk_tup (xs := xs)) (fun i H' => Same (upd H4 t2 (.tup xs)) H' ∧ H' D5 = some (.lst [])) ?_ (fun _ _ _ h => SqT.of (h.1.at_ upd_same)) ?_ ?_⟩
    · exact ⟨Same.new hD5, upd_same⟩
    · rintro i x H5 H5' hi ⟨s6, q6⟩ ⟨rfl, hx⟩
      walk_at "go"
      obtain ⟨⟨T0, ty0, _, _, kb⟩, _⟩ := hg.knd (K := K) (H := H5') x (List.mem_of_getElem? hx)
      refine v_isi ty0 kb ?_
      walk_at "go"
      rw [gt_nobl hg x (List.mem_of_getElem? hx)]
      walk_at "go"
      exact ⟨s6, q6⟩
    rintro H6 ⟨s6, q6⟩
    walk_at "go"
    refine ⟨by show 0 ≤ sizeLine; decide, fun p7 hp7 => ?_⟩
    have s7 := s6.trans (Same.new (o := .lst []) hp7)
    refine v_neL0 (xs := []) (SqL.of ((Same.new hp7).at_ q6)) (SqL.of upd_same) rfl ?_
    rw [show (([] : List V).isEmpty) = true from rfl]
    walk_at "go"
    have s8 := s5.trans s7
    refine v_eqTT (SqT.of (s7.at_ upd_same)) (SqT.of (s8.at_ ht)) hg.sc ?_
    walk_at "go"
    refine v_ixT (SqT.of (s8.at_ ht)) (atI_nat (j := 0) hw0) ?_
    walk_at "go"
    refine ⟨e, dx, xs, C, fs, _, rfl, hg, hw0, s8.at_ he, fun p8 H8 s9 hp8 => ?_⟩
    walk_at "go"
    refine v_eqTT (SqT.of hp8) (SqT.of (s9.at_ (s8.at_ ht))) hg.sc ?_
    exact k _ (s8.trans s9)

theorem use_is {H : Hp} {Q : VK} {E : XK} {e dx t : Addr} {xs : List V} {C : Str} {fs : List (Str × V)} (hg : GT xs C fs) (he : H e = some (.ins (He.ga K C) dx fs)) (ht : H t = some (.tup xs)) (k : ∀ H', Same H H' → Q (.bl true) H') : sp_Lis K [.ref e, .ref t] H Q E := ⟨e, dx, t, xs, C, fs, rfl, hg, he, ht, k⟩
theorem use_made {H : Hp} {Q : VK} {E : XK} {t : Addr} {xs : List V} {C : Str} {fs : List (Str × V)} (hg : GT xs C fs) (ht : H t = some (.tup xs)) (k : ∀ (e dx : Addr) (H' : Hp), H e = none → Same H H' → H' e = some (.ins (He.ga K C) dx fs) → Q (.ref e) H') : sp_Lmade K [.ref t] H Q E := ⟨t, xs, C, fs, rfl, SqT.of ht, hg, k⟩
theorem use_read {H : Hp} {Q : VK} {E : XK} {t : Addr} {xs : List V} {C : Str} {fs : List (Str × V)} (hg : GT xs C fs) (ht : H t = some (.tup xs)) (k : ∀ (e dx : Addr) (H' : Hp), H e = none → Same H H' → H' e = some (.ins (He.ga K C) dx fs) → Q (.ref e) H') : sp_read_entry K [.ref t] H Q E :=
  ⟨.ref t, .type "tuple", rfl, .base (.tup ht), .inr ⟨t, xs, rfl, SqT.of ht, kit_ty kt_tuple, hg.knd, fun C2 fs2 h e dx H2 h1 h2 h3 => by
    rw [hg.ent] at h
    injection h with h
    injection h with hC hf
    subst hC hf
    exact k e dx H2 h1 h2 h3, fun h => by rw [hg.ent] at h; cases h⟩⟩
structure PairOk (K : PySem.W.Frag) (F : Hp) (p : Addr) : Prop where
  ex : ∃ (e t dx : Addr) (xs : List V) (C : Str) (fs : List (Str × V)), F p = some (.tup [.ref e, .ref t]) ∧ GT xs C fs ∧ F e = some (.ins (He.ga K C) dx fs) ∧ F t = some (.tup xs)
theorem PairOk.same {F F' : Hp} {p : Addr} (h : PairOk K F p) (s : Same F F') : PairOk K F' p := by
  obtain ⟨e, t, dx, xs, C, fs, h1, h2, h3, h4⟩ := h
  exact ⟨e, t, dx, xs, C, fs, s.at_ h1, h2, s.at_ h3, s.at_ h4⟩
theorem cutV_int {ns : List Int} {lo hi : Option Int} : ∃ zs : List Int, cutV (ns.map V.int) lo hi = zs.map V.int ∧ zs.length ≤ ns.length := by
  refine ⟨(ns.drop (HT.sIx (ns.map V.int).length 0 lo)).take (HT.sIx (ns.map V.int).length (ns.map V.int).length hi - HT.sIx (ns.map V.int).length 0 lo), ?_, ?_⟩
  · unfold cutV
    rw [List.map_take, List.map_drop]
  · rw [List.length_take, List.length_drop]
    omega
theorem Same.hid {l : Addr} {H H' : Hp} (s : Same H H') : Same (hid l H) (hid l H') := hid_same s.but
theorem but_upd {l : Addr} {H H' : Hp} {o : HO} (s : Same H H') : But l H (upd H' l o) := fun b u n e => by
  rw [upd_ne n]
  exact s b u e

theorem ok_law (T : Tx P w K mg base) : DefOk P w K mg base 7 ("law", none) ["_law_script"] (sp_law K) := by
  refine mkOk T.f_law sc_law (fun vs H Q E h => ?_) (fun _ _ _ _ _ _ us hl => match us, hl with | [_], _ => rfl) (fun cdv A outer s H vs Q E hr h => ?_)
  · obtain ⟨a, ns, rfl, hS, hlen, hbits, k⟩ := h
    rfl
  · obtain ⟨a, ns, rfl, hS, hlen, hbits, k⟩ := h
    refine ⟨_, (pss_cons (ps_set (i := 1) sc_law.nd rfl (Or.inl rfl) (pe_lst pa_nil))
      (pss_cons (ps_for (passes_of rfl) rfl (psqK K rfl (pe_op kAdd (pe_slice (slK K rfl) (pv 0) po_none (po_some pe_int)) (pe_lst (pa_cons pe_int (pa_cons pe_int (pa_cons pe_int pa_nil)))))) (pg_name (i := 2) sc_law.nd rfl (Or.inl rfl)) (pss_cons (ps_set (i := 3) sc_law.nd rfl (Or.inl rfl) (kc (ok_Ltold (K := K) T) T.g__law_told (hr.mono (by decide)) pB (pa_cons (kc (ok_Lwell (K := K) T) T.g__law_well (hr.mono (by decide)) pB (pa_cons (pv 2) pa_nil)) pa_nil)))
      (pss_one (ps_for (passes_of rfl) rfl (psqK K rfl (pe_lst (pa_cons (kc (ok_Lmade (K := K) T) T.g__law_made (hr.mono (by decide)) pB (pa_cons (pv 3) pa_nil)) (pa_cons (kc (ok_read_entry (K := K) T) T.g_read_entry (hr.mono (by decide)) pB (pa_cons (pv 3) pa_nil)) (pa_cons (kc (ok_read_entry (K := K) T) T.g_read_entry (hr.mono (by decide)) pB (pa_cons (kme0 (kc (ok_Lmade (K := K) T) T.g__law_made (hr.mono (by decide)) pB (pa_cons (pv 3) pa_nil)) (ways_told (K := K) T) (hr.mono (by decide)) pB) pa_nil)) pa_nil))))) (pg_name (i := 4) sc_law.nd rfl (Or.inl rfl)) (pss_cons (ps_if (pt_not (pt_val (kc (ok_Lis (K := K) T) T.g__law_is (hr.mono (by decide)) pB (pa_cons (pv 4) (pa_cons (pv 3) pa_nil))))) (pss_one (ps_ret pe_bl)) pss_nil)
      (pss_one (ps_expr (bmK K rfl PySem.F.plainAttrs_list PySem.F.slot_list_append PySem.F.type_list_append mt_append (pv 1) (pa_cons (pe_tup (pa_cons (pv 4) (pa_cons (pv 3) pa_nil))) pa_nil)))))))))
      (pss_cons (ps_for (passes_of rfl) rfl (psqK K rfl (revK K rfl (pv 1))) (gtK K rfl rfl (pgs_cons (pg_name (i := 4) sc_law.nd rfl (Or.inl rfl)) (pgs_cons (pg_name (i := 3) sc_law.nd rfl (Or.inl rfl)) pgs_nil))) (pss_one (ps_if (pt_not (pt_val (kc (ok_Lis (K := K) T) T.g__law_is (hr.mono (by decide)) pB (pa_cons (pv 4) (pa_cons (pv 3) pa_nil))))) (pss_one (ps_ret pe_bl)) pss_nil)))
      (pss_one (ps_ret pe_bl))))), ?_⟩
    walk_at "go"
    refine ⟨by show 0 ≤ sizeLine; decide, fun l hl => ?_⟩
    walk_at "go"
    refine s_isL ?_
    walk_at "go"
    have s0 := Same.new (o := .lst []) hl
    refine .inl ⟨a, _, rfl, s0.seq hS, fun p1 hp1 => ?_⟩
    obtain ⟨zs, hzs, hzl⟩ := cutV_int (ns := ns) (lo := none) (hi := some 20)
    rw [hzs]
    walk_at "go"
    refine ⟨by show 3 ≤ sizeLine; decide, fun p2 hp2 => ?_⟩
    refine v_addL (xs := zs.map V.int) (zs := [.int 0, .int 3, .int 8]) (by rw [upd_ne (ne_of_none upd_same hp2)]; exact upd_same) upd_same ?_ fun p3 hp3 => ?_
    · rw [List.length_map]
      exact sz (by show zs.length + 3 ≤ _; omega)
    have ezs : zs.map V.int ++ [V.int 0, .int 3, .int 8] = (zs ++ [0, 3, 8]).map V.int := by rw [List.map_append]; rfl
    rw [ezs]
    have nl3 : l ≠ p3 := ne_of_none ((Same.new hp2).at_ ((Same.new hp1).at_ upd_same)) hp3
    refine ⟨p3, rfl, ⟨_, SqL.of upd_same⟩, ?_⟩
    refine for_it (walk_list (xs := (zs ++ [0, 3, 8]).map V.int)) (fun i σ H' => (∃ v2 v3 v4, σ = [some (.ref a), some (.ref l), v2, v3, v4]) ∧ H' p3 = some (.lst ((zs ++ [0, 3, 8]).map V.int)) ∧ ∃ ps : List Addr, H' l = some (.lst (ps.map V.ref)) ∧ ps.length ≤ 3 * i ∧ ∀ p ∈ ps, PairOk K (hid l H') p) ?_ (fun _ _ _ _ h => SqL.of h.2.1) ?_ ?_
    · exact ⟨⟨none, none, none, rfl⟩, upd_same, [], (Same.new hp3).at_ ((Same.new hp2).at_ ((Same.new hp1).at_ upd_same)), Nat.zero_le _, fun p hp => nomatch hp⟩
    · rintro i x σ H1 H1' hi ⟨⟨v2, v3, v4, rfl⟩, h3, ps, hps, hpl, hpo⟩ ⟨rfl, hx⟩
      rw [List.getElem?_map] at hx
      obtain ⟨z, hz, rfl⟩ := Option.map_eq_some_iff.mp hx
      have hi66 : i < 66 := by
        have : i < ((zs ++ [0, 3, 8]).map V.int).length := hi
        rw [List.length_map, List.length_append] at this
        have : i < zs.length + 3 := this
        omega
      walk_at "go"
      refine ⟨z, rfl, fun w0 H2 hw0 s2 hwa => ?_⟩
      walk_at "go"
      refine use_told hwa fun t xs C fs H3 hg d3 _ ht => ?_
      have s3 : Same H1' H3 := d3.same s2 hw0
      walk_at "go"
      refine s_isL ?_
      walk_at "go"
      refine use_made hg ht fun e1 dx1 H4 _ s4 he1 => ?_
      walk_at "go"
      refine use_read hg (s4.at_ ht) fun e2 dx2 H5 _ s5 he2 => ?_
      walk_at "go"
      have s45 := s4.trans s5
      refine use_made hg (s45.at_ ht) fun e4 dx4 H6 _ s6 he4 => ?_
      refine use_toldm hg he4 fun t2 ht2 => ?_
      walk_at "go"
      refine use_read hg upd_same fun e3 dx3 H7 _ s7 he3 => ?_
      walk_at "go"
      have s67 : Same H5 H7 := s6.trans ((Same.new ht2).trans s7)
      refine ⟨by show 3 ≤ sizeLine; decide, fun p4 hp4 => ?_⟩
      have s8 : Same H3 (upd H7 p4 (.lst [.ref e1, .ref e2, .ref e3])) := s45.trans (s67.trans (Same.new hp4))
      have s9 := s3.trans s8
      have nl4 : l ≠ p4 := ne_of_none (s3.trans (s45.trans s67) |>.at_ hps) hp4
      have nlt : t ≠ l := ne_of (s8.at_ ht) (s9.at_ hps) (by intro q; cases q)
      walk_at "go"
      refine ⟨p4, rfl, ⟨_, SqL.of upd_same⟩, ?_⟩
      have ins : ∀ (e dx : Addr), (upd H7 p4 (.lst [.ref e1, .ref e2, .ref e3])) e = some (.ins (He.ga K C) dx fs) → hid l (upd H7 p4 (.lst [.ref e1, .ref e2, .ref e3])) e = some (.ins (He.ga K C) dx fs) := fun e dx h => hid_of h (ne_of h (s9.at_ hps) (by intro q; cases q))
      have i1 := ins e1 dx1 ((Same.new hp4).at_ (s67.at_ (s5.at_ he1)))
      have i2 := ins e2 dx2 ((Same.new hp4).at_ (s67.at_ he2))
      have i3 := ins e3 dx3 ((Same.new hp4).at_ he3)
      have it := hid_of (s8.at_ ht) nlt
      have ip3 := hid_of (s9.at_ h3) nl3.symm
      have ip4 := hid_of (w := l) (upd_same (H := H7) (a := p4) (o := .lst [.ref e1, .ref e2, .ref e3])) nl4.symm
      have ipo : ∀ p ∈ ps, PairOk K (hid l (upd H7 p4 (.lst [.ref e1, .ref e2, .ref e3]))) p := fun p hp => (hpo p hp).same (Same.hid s9)
      refine for_it (walk_list (xs := [V.ref e1, .ref e2, .ref e3])) (fun j σ H' => (∃ v4, σ = [some (.ref a), some (.ref l), some (.int z), some (.ref t), v4]) ∧ Same (hid l (upd H7 p4 (.lst [.ref e1, .ref e2, .ref e3]))) (hid l H') ∧ ∃ ps : List Addr, H' l = some (.lst (ps.map V.ref)) ∧ ps.length ≤ 3 * i + j ∧ ∀ p ∈ ps, PairOk K (hid l H') p) ?_ (fun _ _ _ _ h => SqL.of (hid_at (h.2.1.at_ ip4)).1) ?_ ?_
      · exact ⟨⟨v4, rfl⟩, Same.refl _, ps, s9.at_ hps, hpl, ipo⟩
      · rintro j x σ H8 H8' hj ⟨⟨v4, rfl⟩, sh, ps2, hps2, hpl2, hpo2⟩ ⟨rfl, hx⟩
        have hj3 : j < 3 := hj
        have hxe : ∃ e dx, x = .ref e ∧ hid l H8' e = some (.ins (He.ga K C) dx fs) := by
          have hm := List.mem_of_getElem? hx
          simp only [List.mem_cons, List.not_mem_nil, or_false] at hm
          rcases hm with rfl | rfl | rfl
          · exact ⟨_, _, rfl, sh.at_ i1⟩
          · exact ⟨_, _, rfl, sh.at_ i2⟩
          · exact ⟨_, _, rfl, sh.at_ i3⟩
        obtain ⟨e, dx, rfl, hie⟩ := hxe
        have hit := sh.at_ it
        walk_at "go"
        refine use_is hg (hid_at hie).1 (hid_at hit).1 fun H9 s10 => ?_
        walk_at "go"
        have hps3 := s10.at_ hps2
        refine ⟨.inl ⟨rfl, _, SqL.of hps3⟩, ?_⟩
        walk_at "go"
        refine ⟨by show 2 ≤ sizeLine; decide, fun p5 hp5 => ?_⟩
        have s11 := s10.trans (Same.new (o := .tup [.ref e, .ref t]) hp5)
        have nl5 : l ≠ p5 := ne_of_none hps3 hp5
        walk_at "go"
        refine v_app (s11.at_ hps2) ?_ ?_
        · rw [List.length_map]
          exact Nat.lt_of_le_of_lt (show ps2.length ≤ 1000 by omega) (by decide)
        · have b1 : But l H8' (upd (upd H9 p5 (.tup [.ref e, .ref t])) l (.lst (ps2.map V.ref ++ [.ref p5]))) := but_upd s11
          have sh2 := hid_same b1
          refine ⟨⟨_, rfl⟩, sh.trans sh2, ps2 ++ [p5], ?_, ?_, ?_⟩
          · rw [upd_same, List.map_append]
            rfl
          · rw [List.length_append, List.length_singleton]
            omega
          · intro p hp
            rcases List.mem_append.mp hp with hp | hp
            · exact (hpo2 p hp).same sh2
            · rw [List.mem_singleton.mp hp]
              refine ⟨e, t, dx, xs, C, fs, hid_of ?_ nl5.symm, hg, sh2.at_ hie, sh2.at_ hit⟩
              rw [upd_ne nl5.symm]
              exact upd_same
      · rintro σ H8 ⟨⟨v4, rfl⟩, sh, ps2, hps2, hpl2, hpo2⟩
        exact ⟨⟨_, _, _, rfl⟩, (hid_at (sh.at_ ip3)).1, ps2, hps2, by show _ ≤ 3 * (i + 1); have : ps2.length ≤ 3 * i + 3 := hpl2; omega, hpo2⟩
    · rintro σ H1 ⟨⟨v2, v3, v4, rfl⟩, h3, ps, hps, hpl, hpo⟩
      walk_at "go"
      refine s_isL ?_
      walk_at "go"
      refine ⟨l, _, rfl, SqL.of hps, fun p6 hp6 => ?_⟩
      have nl6 : l ≠ p6 := ne_of_none hps hp6
      have s2 := Same.new (o := .lst (ps.map V.ref).reverse) hp6
      refine ⟨p6, rfl, ⟨_, SqL.of upd_same⟩, ?_⟩
      have hpo1 : ∀ p ∈ ps, PairOk K (upd H1 p6 (.lst (ps.map V.ref).reverse)) p := fun p hp => (hpo p hp).same (hid_le.trans s2)
      refine for_it (walk_list (xs := (ps.map V.ref).reverse)) (fun i σ H' => (∃ v2 v3 v4, σ = [some (.ref a), some (.ref l), v2, v3, v4]) ∧ Same (upd H1 p6 (.lst (ps.map V.ref).reverse)) H') ?_ (fun _ _ _ _ h => SqL.of (h.2.at_ upd_same)) ?_ ?_
      · exact ⟨⟨_, _, _, rfl⟩, Same.refl _⟩
      · rintro i x σ H2 H2' hi ⟨⟨v2, v3, v4, rfl⟩, s3⟩ ⟨rfl, hx⟩
        have hm := List.mem_reverse.mp (List.mem_of_getElem? hx)
        obtain ⟨p, hp, rfl⟩ := List.mem_map.mp hm
        obtain ⟨e, t, dx, xs, C, fs, h1, hg, h4, h5⟩ := (hpo1 p hp).same s3
        refine s_gsT (SqT.of h1) rfl ?_
        walk_at "go"
        refine use_is hg h4 h5 fun H3 s4 => ?_
        walk_at "go"
        exact ⟨⟨_, _, _, rfl⟩, s3.trans s4⟩
      · rintro σ H2 ⟨⟨v2, v3, v4, rfl⟩, s3⟩
        walk_at "go"
        exact k _
end
end Kn

theorem PySem.Challenge.cw_knotpurse_k04_entries_told_holds : PySem.Challenge.rw_knotpurse_k04_entries_told.Holds :=
  Kn.closeA fun _ _ _ _ T => Kn.ok_law T
