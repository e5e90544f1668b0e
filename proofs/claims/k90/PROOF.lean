import PyProof.Rows.All
import Wide.All
import OpenK.AllK
import Wide.FinOn
import KE.KStateDown
import Lean
import HandS.ForMost
import HandS.Defaults
import HandS.Head0
import HandS.Head1
import HandS.Head2
import HandS.HeadEnd
import HandS.HeadHook1
import HandS.HeadHook2
import HandS.HeadHook3
import HandS.HeadHook4
import HandS.MakeKwOnly
import HandS.SortRule
import HandS.SortInts
import HandS.IsInst
import HandS.NoneIn
import HandS.DictTup
import HandS.Conv
import HandS.Flow
import HandS.Wide
import HandS.WideBits
import HandS.Style
import HandS.Deep
import HandS.DeepEq
import HandS.TupAny
import HandS.DictComp
import HandS.Zip
import HandS.Walk
import PyProof.DictMoreH
import HandS.Small
import PySem.Challenge.RW_keeprows_k90_where_stores_part
set_option Elab.async false
set_option linter.all false
set_option maxRecDepth 100000
set_option maxHeartbeats 0
namespace KR
open PySem PySem.Spec PyProof.Rows L2
/-! ### own rules: bundles of what a caller needs of a callee; a def read off a class -/
section
variable (P : Program) (w : World) (K : PySem.W.Frag) (mg : Str → Option Value) (base : Heap)
/-- a def of the module, as callers use it -/
def GF (CX : CXT) (x : Str) (ps : List Str) (k : Nat) (sp : Sp) : Prop :=
  ∃ f fd, FnOk P w K mg base CX k f fd ps sp ∧ mg x = some (.ref f) ∧ PySem.W.keepIn K (.ref f) = true ∧ Binds K fd ps []
/-- a method of a class's instances -/
def MF (CX : CXT) (C : Addr) (m : Str) (ps : List Str) (k : Nat) (sp : Sp) : Prop :=
  ∃ f fd, FnOk P w K mg base CX k f fd ps sp ∧ Meth K C m f ∧ Binds K fd ps []
/-- a class and its __init__ -/
def KF (CX : CXT) (x : Str) (C : Addr) (ps : List Str) (k : Nat) (sp : Sp) : Prop :=
  ∃ f fd, FnOk P w K mg base CX k f fd ps sp ∧ Mk K C f ∧ mg x = some (.ref C) ∧ Binds K fd ps []
/-- a def that is read off a class -/
def CF (CX : CXT) (x : Str) (m : Str) (ps : List Str) (k : Nat) (sp : Sp) : Prop :=
  ∃ C f fd, FnOk P w K mg base CX k f fd ps sp ∧ mg x = some (.ref C) ∧ PySem.W.readsIn K C (.type "type") = true ∧
    PySem.W.specialIn K (.ref C) "__getattribute__" = some (some (.builtin "type.__getattribute__")) ∧
    PySem.W.findCls K (.ref C) (.type "type") m = some (.val (.ref f)) ∧ PySem.W.keepIn K (.ref f) = true ∧ Binds K fd ps []
end
section
variable {P : Program} {w : World} {K : PySem.W.Frag} {mg : Str → Option Value} {base : Heap} {CX : CXT} {x m : Str} {C : Addr} {ps : List Str} {j k : Nat} {sp sp' : Sp}
theorem GF.up (O : GF P w K mg base CX x ps j sp) (h : j ≤ k) : GF P w K mg base CX x ps k sp :=
  let ⟨f, fd, F, r⟩ := O
  ⟨f, fd, F.mono h, r⟩
theorem MF.up (O : MF P w K mg base CX C m ps j sp) (h : j ≤ k) : MF P w K mg base CX C m ps k sp :=
  let ⟨f, fd, F, r⟩ := O
  ⟨f, fd, F.mono h, r⟩
end
section
variable {X : Cx} {CX : CXT} {x m : Str} {C : Addr} {ps : List Str} {j k : Nat} {sp : Sp} {E : XK} {p pos apos : Pos} {e o : Expr} {es : List Expr} {t : TA} {ta : TE}
theorem pg (O : GF X.prog X.w X.K X.mg X.base CX x ps k sp) (hr : Room j X.A) (hx : Passes CX X E) (ha : PA X (e :: es) t) (hjk : k ≤ j := by decide) (hg : Gl X x := by rfl)
    (hdb : (x == ("__debug__" : Str)) = false := by decide) (he : starEach (e :: es) X.env = (false, eval e X.env) :: starEach es X.env := by rfl) (hpl : (backTo pos (starEach es X.env)).any (·.1) = false := by rfl) :
    PE X (.Call (.Name x p) (e :: es) [] pos) (tCall sp [] E t) := by
  obtain ⟨f, fd, F, g, kp, b⟩ := O
  exact pe_call F (hr.mono hjk) hg g kp b .nil hx ha hdb he hpl
theorem pm {pl : Sem Bool} (O : MF X.prog X.w X.K X.mg X.base CX C m ps k sp) (c : Cls X.K C) (hr : Room j X.A) (hx : Passes CX X E) (he : PE X o ta) (ha : PA X (e :: es) t) (hjk : k ≤ j := by decide)
    (hst : starEach (e :: es) X.env = (false, eval e X.env) :: starEach es X.env := by rfl) (hpl : (backTo pos (starEach es X.env)).any (·.1) = false := by rfl)
    (ht : eval (.Call (.Attribute o m apos) (e :: es) [] pos) X.env = (do
      let v ← eval o X.env
      standAt apos.atName
      let (g, first) ← holding [v] (getMethod v m pl)
      callWith pos g first (backTo pos (starEach (e :: es) X.env)) (backToKw pos (keywordEach [] X.env))) := by rfl) :
    PE X (.Call (.Attribute o m apos) (e :: es) [] pos) (tMeth C m sp [] E ta t) := by
  obtain ⟨f, fd, F, g, b⟩ := O
  exact pe_meth he c g F (hr.mono hjk) b .nil hx ha hst hpl ht
theorem pm0 {pl : Sem Bool} (O : MF X.prog X.w X.K X.mg X.base CX C m ps k sp) (c : Cls X.K C) (hr : Room j X.A) (hx : Passes CX X E) (he : PE X o ta) (hjk : k ≤ j := by decide)
    (ht : eval (.Call (.Attribute o m apos) [] [] pos) X.env = (do
      let v ← eval o X.env
      standAt apos.atName
      let (g, first) ← holding [v] (getMethod v m pl)
      callWith pos g first (backTo pos (starEach [] X.env)) (backToKw pos (keywordEach [] X.env))) := by rfl) :
    PE X (.Call (.Attribute o m apos) [] [] pos) (tMeth C m sp [] E ta tNil) := by
  obtain ⟨f, fd, F, g, b⟩ := O
  exact pe_meth0 he c g F (hr.mono hjk) b .nil hx ht
theorem pk (O : KF X.prog X.w X.K X.mg X.base CX x C ps k sp) (hr : Room j X.A) (hx : Passes CX X E) (ha : PA X (e :: es) t) (hjk : k + 1 ≤ j := by decide) (hg : Gl X x := by rfl)
    (hdb : (x == ("__debug__" : Str)) = false := by decide) (he : starEach (e :: es) X.env = (false, eval e X.env) :: starEach es X.env := by rfl) (hpl : (backTo pos (starEach es X.env)).any (·.1) = false := by rfl) :
    PE X (.Call (.Name x p) (e :: es) [] pos) (tMake C sp [] E t) := by
  obtain ⟨f, fd, F, M, g, b⟩ := O
  exact pe_make M F (hr.mono hjk) hg g b .nil hx ha hdb he hpl
/-- C.m(e, ..), C a class of the module -/
theorem pc (O : CF X.prog X.w X.K X.mg X.base CX x m ps k sp) (hr : Room j X.A) (hx : Passes CX X E) (ha : PA X (e :: es) t) (hjk : k ≤ j := by decide) (hg : Gl X x := by rfl)
    (hdb : (x == ("__debug__" : Str)) = false := by decide) (he : starEach (e :: es) X.env = (false, eval e X.env) :: starEach es X.env := by rfl) (hpl : (backTo pos (starEach es X.env)).any (·.1) = false := by rfl)
    {pl : Sem Bool} (ht : eval (.Call (.Attribute (.Name x p) m apos) (e :: es) [] pos) X.env = (do
      let v ← eval (.Name x p) X.env
      standAt apos.atName
      let (g, first) ← holding [v] (getMethod v m pl)
      callWith pos g first (backTo pos (starEach (e :: es) X.env)) (backToKw pos (keywordEach [] X.env))) := by rfl) :
    PE X (.Call (.Attribute (.Name x p) m apos) (e :: es) [] pos) (tCall sp [] E t) := by
  obtain ⟨C, f, fd, F, g, rd, ga, fc, kp, b⟩ := O
  refine ⟨fun pins s σ H Q I h => ?_⟩
  refine PySem.W.methodCall_KW (pl := pl) (ld_glob I hg g ?_ hdb) ht
  refine PySem.W.method_cls I.kIn ga (PySem.W.cls_value I.kIn rd fc rfl ?_)
  have I2 := I.tok (s.toks + 1)
  refine PySem.W.callWith_K (first := []) (h₀ := X.base) I2.ok.mod.kin kp (thn (ha.run pos pins _ σ H _ I2 h) fun us s1 ⟨vs, H1, I1, r, q⟩ => ⟨I1.kIn, ?_⟩) he hpl
  exact run_fn F (hr.mono hjk) b .nil hx I1 r q
end
end KR

namespace KR
open PySem PySem.Spec PyProof.Rows L2
/-! ### sorted(d), int keys, any number of them -/
def rSortedDict : List V → Hp → VK → Prop := fun xs H Q => ∃ (d : Addr) (kvs : List (Key × V)) (ks : List Int), xs = [.ref d] ∧ Rd H d (.dK kvs) ∧ kvs.map (·.1) = ks.map Sum.inl ∧
  ∀ (zs : List Int) (q : Addr), zs.Perm ks → zs.Pairwise (· ≤ ·) → H q = none → Q (.ref q) (upd H q (.lst (zs.map V.int)))
section
variable {X : Cx}
theorem call_sortedDict (hcalm : X.calm = true) : CallR X (.builtin "sorted") rSortedDict := by
  intro pins s σ H xs us Q I r hyp
  obtain ⟨d, kvs, ks, rfl, hd, hks, kont⟩ := hyp
  obtain ⟨u0, rfl, ru⟩ := vals1 r
  cases ru
  obtain ⟨z, lo, vs, rel, dd⟩ := dk_rd I.hok hd
  obtain ⟨ep, hat⟩ := dd.dictAt
  have hkeys : vs.map (·.1) = ks.map Sum.inl := Eq.trans rel.keys.symm hks
  have hlen0 : vs.length = ks.length := by
    have h1 := congrArg List.length hkeys
    simpa using h1
  have hvz : vs.length ≤ sizeLine := Nat.le_trans (Nat.le_of_eq (Paired.length rel).symm) z
  refine Calls.call_function_entry PyProof.Rows.kind_sorted PyProof.Rows.plain_sorted PyProof.Rows.entry_sorted (PyProof.Rows.args_sorted1 _) ?_
  unfold Builtin.«sorted»
  refine wpAny_bind (m := checkCount "sorted" 1 1 _) (wpAny_pure (wpAny_bind (PySem.W.kdu_collect (A := X.A.in1) (PySem.W.kdl_dict (knd := mixKind X.prog X.w) (kvs := vs) (ep := ep) lo) (I.ok.hd hcalm) hat hvz fun h' tk acc hk hacc => ?_)))
  have hal : acc.toList.length = ks.length := (Array.length_toList (xs := acc)).trans (hacc.1.trans hlen0)
  have hS : IntsAre acc.toList ks := by
    refine ints_each hal fun j v ev => ?_
    obtain ⟨k, x, e1, e2⟩ := hacc.2 j v ((Array.getElem?_toList (xs := acc) (i := j)).symm.trans ev)
    have e3 : (vs.map (·.1))[j]? = some k := by rw [List.getElem?_map, e1, Option.map_some]
    rw [hkeys, List.getElem?_map] at e3
    obtain ⟨y, e4, e5⟩ := Option.map_eq_some_iff.mp e3
    subst e5
    rcases keyIs_shape (show keyIs (Sum.inl y) v = true from e2) with ⟨i, t, ek, ew⟩ | ⟨_, _, ek, _⟩
    · cases ek
      exact ⟨y, t, e4, ew⟩
    · cases ek
  have I1 : Inv X pins σ H { s with heap := h', toks := tk } := I.kept hk
  have hz2 : acc.toList.length ≤ sizeLine := by rw [hal, ← hlen0]; exact hvz
  refine wpAny_bind (wpAny_newList ?_ (by simpa using hz2))
  have hoL : (h'.push (seqObj "list" acc.toList.toArray 0)).get? h'.objs.size = some (seqObj "list" acc.toList.toArray 0) := Heap.get?_push_size _ rfl
  show wpAny _ _ _ _ _ { s with heap := h'.push (seqObj "list" acc.toList.toArray 0), toks := tk }
  refine wpAny_bind (wpAny_holding (wpAny_call_entry PyProof.Rows.slot_list_sort ⟨_, hoL, rfl⟩ PyProof.Rows.entry_list_sort
    (SrtO.list_sort_ord (s := { s with heap := h'.push (seqObj "list" acc.toList.toArray 0), toks := tk }) SrtO.swo_int hoL hz2 (fun h2 => SrtO.ints_sortable hS h2) fun out g1 g2 => ⟨_, rfl, ?_⟩) (PyProof.Rows.args_list_sort _)))
  obtain ⟨k1, k2, k3⟩ := SrtO.ints_out hS g1 g2
  obtain ⟨e', he'⟩ := PyProof.Rows.sortedHeap_at (vs := acc.toList) (out := out.toArray) hoL
  have hlen : ((out.map SrtO.iv).map V.int).length ≤ sizeLine := by
    rw [List.length_map, k2.length_eq, ← hlen0]
    exact hvz
  refine wpAny_pure ⟨_, rfl, .ref h'.objs.size, upd H h'.objs.size (.lst ((out.map SrtO.iv).map V.int)), I1.laid (t' := tk) (fun b u q => ?_) (Nat.le_refl _)
    (show ObjOk X.prog X.w _ _ _ (.lst ((out.map SrtO.iv).map V.int)) from ⟨hlen, out, e', vals_of_ints k1, he'⟩), rfl, kont _ _ k2 k3 (I1.hok.fresh (Nat.le_refl _))⟩
  have hb : b < h'.objs.size := Heap.lt_size q
  rw [PyProof.Rows.sortedHeap_old (Nat.ne_of_lt hb) (by rw [size_push']; exact Nat.lt_succ_of_lt hb)]
  exact Heap.get?_push_of_some _ q
end
end KR

namespace KR
open PySem PySem.Spec PyProof.Rows L2
/-! ### readings, step by step -/
/-- what was tracked outside F is kept -/
def Keep (F : List Addr) (H H' : Hp) : Prop := ∀ b o, H b = some o → b ∉ F → H' b = some o
theorem Keep.refl (F : List Addr) (H : Hp) : Keep F H H := fun _ _ e _ => e
theorem Keep.of_same {F : List Addr} {H H' : Hp} (s : Same H H') : Keep F H H' := fun b o e _ => s b o e
theorem Same.upd {H : Hp} {p : Addr} {o : HO} (h : H p = none) : Same H (upd H p o) := fun b u e => by rw [upd_ne (ne_of_none e h)]; exact e
/-- a new object -/
def newK (o : HO) (H : Hp) (Q : V → Hp → Prop) : Prop := ∀ p H', H p = none → H' p = some o → Same H H' → Q (.ref p) H'
theorem newK.to {o : HO} {H : Hp} {Q : V → Hp → Prop} (h : newK o H Q) : ∀ p, H p = none → Q (.ref p) (upd H p o) := fun p hp => h p _ hp upd_same (Same.upd hp)
section
variable {σ : L2.St} {H : Hp} {D : Ends} {Q : VK} {K : PySem.W.Frag}
theorem i_seq {t u : TS} (k : t { D with nx := u D } σ H) : tSeq t u D σ H := k
theorem i_next (k : D.nx σ H) : tNext D σ H := k
theorem i_asg {te : TE} {g : TG} (k : te σ H fun x H1 => g x σ H1 D.nx) : tAsg te g D σ H := k
theorem i_name {i : Nat} {v : V} {R : L2.St → Hp → Prop} (k : R (σ.set i (some v)) H) : gName i v σ H R := k
theorem i_ret {te : TE} (k : te σ H D.rt) : tRet te D σ H := k
theorem i_retN (k : D.rt .non H) : tRetN D σ H := k
theorem i_drop {te : TE} (k : te σ H fun _ H1 => D.nx σ H1) : tDrop te D σ H := k
theorem i_if {c : TT} {t u : TS} (k : c σ H fun b H1 => if b = true then t D σ H1 else u D σ H1) : tIfS c t u D σ H := k
theorem i_var {i : Nat} {v : V} (h : σ[i]? = some (some v)) (k : Q v H) : tVar i σ H Q := ⟨v, h, k⟩
theorem i_c {v : V} (k : Q v H) : tC v σ H Q := k
theorem i_op {r : R2} {ta tb : TE} (k : ta σ H fun x H1 => tb σ H1 fun y H2 => r x y H2 Q) : tOp r ta tb σ H Q := k
theorem i_un {r : V → Hp → VK → Prop} {ta : TE} (k : ta σ H fun x H1 => r x H1 Q) : tUn r ta σ H Q := k
theorem i_rI0 {g : Int → Int → V} {i j : Int} (k : Q (g i j) H) : rI0 g (.int i) (.int j) H Q := ⟨i, j, rfl, rfl, k⟩
theorem i_rI {C : Int → Int → Prop} {g : Int → Int → V} {i j : Int} (c : C i j) (k : Q (g i j) H) : rI C g (.int i) (.int j) H Q := ⟨i, j, rfl, rfl, c, k⟩
theorem i_rU {g : Int → V} {i : Int} (k : Q (g i) H) : rU g (.int i) H Q := ⟨i, rfl, k⟩
theorem i_rEqI {i j : Int} (k : Q (.bl (decide (i = j))) H) : rEq (.int i) (.int j) H Q := ⟨rfl, by
  have e : decide (V.int i = V.int j) = decide (i = j) := by simp
  rw [e]; exact k⟩
theorem i_rNeI {i j : Int} (k : Q (.bl (!decide (i = j))) H) : rNe (.int i) (.int j) H Q := ⟨rfl, by
  have e : decide (V.int i = V.int j) = decide (i = j) := by simp
  rw [e]; exact k⟩
theorem i_test {t : TE} {R : Bool → Hp → Prop} (k : t σ H fun x H1 => ∃ b, x = .bl b ∧ R b H1) : tTest t σ H R := k
theorem i_tB {t : TE} {R : Bool → Hp → Prop} (k : t σ H fun x H1 => ∃ b, x = .bl b ∧ R b H1) : tB t σ H R := k
theorem i_bl {b : Bool} {R : Bool → Prop} (k : R b) : ∃ c, V.bl b = .bl c ∧ R c := ⟨b, rfl, k⟩
theorem i_not {t : TT} {R : Bool → Hp → Prop} (k : t σ H fun c H1 => R (!c) H1) : tNot t σ H R := k
theorem i_and {t u : TT} {R : Bool → Hp → Prop} (k : t σ H fun c H1 => if c = true then u σ H1 R else R false H1) : tAnd t u σ H R := k
theorem i_or {t u : TT} {R : Bool → Hp → Prop} (k : t σ H fun c H1 => if c = true then R true H1 else u σ H1 R) : tOr t u σ H R := k
theorem i_nil {R : List V → Hp → Prop} (k : R [] H) : tNil σ H R := k
theorem i_cons {ta : TE} {tr : TA} {R : List V → Hp → Prop} (k : ta σ H fun x H1 => tr σ H1 fun xs H2 => R (x :: xs) H2) : tCons ta tr σ H R := k
theorem i_call {sp : Sp} {dvs : List V} {E : XK} {t : TA} (k : t σ H fun vs H1 => sp (vs ++ dvs) H1 Q E) : tCall sp dvs E t σ H Q := k
theorem i_cb {r : List V → Hp → VK → Prop} {t : TA} (k : t σ H fun vs H1 => r vs H1 Q) : tCB r t σ H Q := k
theorem i_par {i j : Nat} {v x : V} (k : D.nx ((σ.set i (some v)).set j (some x)) H) : ∃ a b, [v, x] = [a, b] ∧ D.nx ((σ.set i (some a)).set j (some b)) H := ⟨v, x, rfl, k⟩
theorem i_tpar {i j : Nat} {ta : TA} (k : ta σ H fun vs H1 => ∃ v w, vs = [v, w] ∧ D.nx ((σ.set i (some v)).set j (some w)) H1) : tPar i j ta D σ H := k
theorem i_aug {i : Nat} {te : TE} {ti : TIp} {x : V} (h : σ[i]? = some (some x)) (k : te σ H fun y H1 => ti x y H1 fun z H2 => D.nx (σ.set i (some z)) H2) : tAug i te ti D σ H := ⟨x, h, k⟩
theorem i_ipI {g : Int → Int → Int} {i j : Int} (k : Q (.int (g i j)) H) : ipI g (.int i) (.int j) H Q := ⟨i, j, rfl, rfl, k⟩
theorem i_ifE {t : TT} {ta tb : TE} (k : t σ H fun c H1 => if c = true then ta σ H1 Q else tb σ H1 Q) : tIf t ta tb σ H Q := k
theorem i_andV {ta tb : TE} (k : ta σ H fun x H1 => ∃ c, x = .bl c ∧ if c = true then tb σ H1 Q else Q (.bl false) H1) : tAndV ta tb σ H Q := k
theorem i_orV {ta tb : TE} (k : ta σ H fun x H1 => ∃ c, x = .bl c ∧ if c = true then Q (.bl true) H1 else tb σ H1 Q) : tOrV ta tb σ H Q := k
theorem i_notV {ta : TE} (k : ta σ H fun x H1 => ∃ c, x = .bl c ∧ Q (.bl (!c)) H1) : tNotV ta σ H Q := k
theorem i_isN {ta : TE} (k : ta σ H fun x H1 => Q (.bl (decide (x = .non))) H1) : tIsN ta σ H Q := k
/-! fields -/
def fldK (K : PySem.W.Frag) (f : Str) (x : V) (H : Hp) (Q : VK) : Prop := ∃ a C dx fs v, x = .ref a ∧ H a = some (.ins C dx fs) ∧ Cls K C ∧ NoAttr K C f ∧ fs.lookup f = some v ∧ Q v H
theorem i_fld {ta : TE} {f : Str} (k : ta σ H fun x H1 => fldK K f x H1 Q) : tFld K ta f σ H Q := k
theorem i_fldK {f : Str} {a C dx : Addr} {fs : List (Str × V)} {v : V} (h : H a = some (.ins C dx fs)) (c : Cls K C) (n : NoAttr K C f) (l : fs.lookup f = some v) (k : Q v H) : fldK K f (.ref a) H Q := ⟨a, C, dx, fs, v, rfl, h, c, n, l, k⟩
def setK (K : PySem.W.Frag) (f : Str) (x y : V) (H : Hp) (R : Hp → Prop) : Prop := ∃ a C dx fs, x = .ref a ∧ H a = some (.ins C dx fs) ∧ Cls K C ∧ NoAttr K C f ∧ fs.length < 1000 ∧ R (upd H a (.ins C dx (putF f y fs)))
theorem i_setf {ta tv : TE} {f : Str} (k : tv σ H fun y H1 => ta σ H1 fun x H2 => setK K f x y H2 fun H3 => D.nx σ H3) : sFld K ta tv f D σ H := k
theorem i_setK {f : Str} {a C dx : Addr} {fs : List (Str × V)} {y : V} {R : Hp → Prop} (h : H a = some (.ins C dx fs)) (c : Cls K C) (n : NoAttr K C f) (l : fs.length < 1000) (k : R (upd H a (.ins C dx (putF f y fs)))) : setK K f (.ref a) y H R := ⟨a, C, dx, fs, rfl, h, c, n, l, k⟩
def augK (K : PySem.W.Frag) (f : Str) (rd : V → V → Hp → VK → Prop) (x : V) (H : Hp) (tv : Hp → (V → Hp → Prop) → Prop) (R : Hp → Prop) : Prop := ∃ a C dx fs v, x = .ref a ∧ H a = some (.ins C dx fs) ∧ Cls K C ∧ NoAttr K C f ∧ fs.lookup f = some v ∧
  tv H fun y H2 => rd v y H2 fun z H3 => ∃ dx' fs', H3 a = some (.ins C dx' fs') ∧ fs'.length < 1000 ∧ R (upd H3 a (.ins C dx' (putF f z fs')))
theorem i_augf {ta tv : TE} {rd : V → V → Hp → VK → Prop} {f : Str} (k : ta σ H fun x H1 => augK K f rd x H1 (fun H2 q => tv σ H2 q) fun H3 => D.nx σ H3) : sFldAug K ta tv rd f D σ H := k
theorem i_augK {f : Str} {rd : V → V → Hp → VK → Prop} {a C dx : Addr} {fs : List (Str × V)} {v : V} {tv : Hp → (V → Hp → Prop) → Prop} {R : Hp → Prop} (h : H a = some (.ins C dx fs)) (c : Cls K C) (n : NoAttr K C f) (l : fs.lookup f = some v)
    (k : tv H fun y H2 => rd v y H2 fun z H3 => ∃ dx' fs', H3 a = some (.ins C dx' fs') ∧ fs'.length < 1000 ∧ R (upd H3 a (.ins C dx' (putF f z fs')))) : augK K f rd (.ref a) H tv R := ⟨a, C, dx, fs, v, rfl, h, c, n, l, k⟩
theorem i_rAdd {i j : Int} (k : Q (.int (i + j)) H) : rAdd (.int i) (.int j) H Q := ⟨i, j, rfl, rfl, k⟩
theorem i_rSub {i j : Int} (k : Q (.int (i - j)) H) : rSub (.int i) (.int j) H Q := ⟨i, j, rfl, rfl, k⟩
/-! methods -/
def methK (C : Addr) (m : Str) (x : V) (H : Hp) (R : V → Hp → Prop) : Prop := ∃ a dx fs, x = .ref a ∧ H a = some (.ins C dx fs) ∧ fs.lookup m = none ∧ R x H
theorem i_meth {C : Addr} {m : Str} {sp : Sp} {dvs : List V} {E : XK} {ta : TE} {t : TA} (k : ta σ H fun x H1 => methK C m x H1 fun x H1 => t σ H1 fun vs H2 => sp (x :: (vs ++ dvs)) H2 Q E) : tMeth C m sp dvs E ta t σ H Q := k
theorem i_methK {C a dx : Addr} {m : Str} {fs : List (Str × V)} {R : V → Hp → Prop} (h : H a = some (.ins C dx fs)) (l : fs.lookup m = none) (k : R (.ref a) H) : methK C m (.ref a) H R := ⟨a, dx, fs, rfl, h, l, k⟩
/-! new things -/
def tupK (xs : List V) (H : Hp) (Q : VK) : Prop := xs.length ≤ sizeLine ∧ ∀ p, H p = none → Q (.ref p) (upd H p (.tup xs))
def lstK (xs : List V) (H : Hp) (Q : VK) : Prop := xs.length ≤ sizeLine ∧ ∀ p, H p = none → Q (.ref p) (upd H p (.lst xs))
theorem i_tup {t : TA} (k : t σ H fun xs H1 => tupK xs H1 Q) : tTup t σ H Q := k
theorem i_lst {t : TA} (k : t σ H fun xs H1 => lstK xs H1 Q) : tLst t σ H Q := k
theorem i_tupK {xs : List V} (l : xs.length ≤ sizeLine) (k : newK (.tup xs) H Q) : tupK xs H Q := ⟨l, newK.to k⟩
theorem i_lstK {xs : List V} (l : xs.length ≤ sizeLine) (k : newK (.lst xs) H Q) : lstK xs H Q := ⟨l, newK.to k⟩
theorem i_dnewK (k : newK (.dK []) H Q) : tDNewK σ H Q := newK.to k
theorem i_dnewT (k : newK (.dT []) H Q) : tDNewT σ H Q := newK.to k
/-! lists, tuples -/
theorem i_ixL {p : Addr} {xs : List V} {i : Int} {v : V} (h : H p = some (.lst xs)) (a : atI xs i = some v) (k : Q v H) : rIxL K (.ref p) (.int i) H Q := ⟨p, xs, i, v, rfl, rfl, SqL.of h, a, k⟩
theorem i_ixT {p : Addr} {xs : List V} {i : Int} {v : V} (h : H p = some (.tup xs)) (a : atI xs i = some v) (k : Q v H) : rIxT K (.ref p) (.int i) H Q := ⟨p, xs, i, v, rfl, rfl, SqT.of h, a, k⟩
def bmK (K : PySem.W.Frag) (T : String) (x : V) (H : Hp) (R : V → Hp → Prop) : Prop := tyV K T x H ∧ R x H
theorem i_bm {T : String} {r : V → List V → Hp → VK → Prop} {to : TE} {t : TA} (k : to σ H fun x H1 => bmK K T x H1 fun x H1 => t σ H1 fun xs H2 => r x xs H2 Q) : tBM K T r to t σ H Q := k
theorem i_bm0 {T : String} {r : V → List V → Hp → VK → Prop} {to : TE} (k : to σ H fun x H1 => bmK K T x H1 fun x H1 => r x [] H1 Q) : tBM0 K T r to σ H Q := k
theorem i_bmL {a : Addr} {xs : List V} {R : V → Hp → Prop} (h : H a = some (.lst xs)) (k : R (.ref a) H) : bmK K "list" (.ref a) H R := ⟨.inl ⟨rfl, _, SqL.of h⟩, k⟩
theorem i_append {l : Addr} {xs : List V} {y : V} (h : H l = some (.lst xs)) (z : xs.length < sizeLine) (k : Q .non (upd H l (.lst (xs ++ [y])))) : rAppend (.ref l) [y] H Q := ⟨l, xs, y, rfl, rfl, h, z, k⟩
theorem i_pop {l : Addr} {xs : List V} {y : V} (h : H l = some (.lst xs)) (e : xs[xs.length - 1]? = some y) (k : Q y (upd H l (.lst xs.dropLast))) : rPop (.ref l) [] H Q := ⟨l, xs, y, rfl, rfl, h, e, k⟩
theorem i_lenL {a : Addr} {xs : List V} (h : H a = some (.lst xs)) (k : Q (.int xs.length) H) : ∃ p ys, [V.ref a] = [.ref p] ∧ (SqL K H p ys ∨ SqT K H p ys) ∧ Q (.int ys.length) H := ⟨a, xs, rfl, .inl (SqL.of h), k⟩
theorem i_lenT {a : Addr} {xs : List V} (h : H a = some (.tup xs)) (k : Q (.int xs.length) H) : ∃ p ys, [V.ref a] = [.ref p] ∧ (SqL K H p ys ∨ SqT K H p ys) ∧ Q (.int ys.length) H := ⟨a, xs, rfl, .inr (SqT.of h), k⟩
theorem i_isi {x c : V} {t u : Value} {b : Bool} (k1 : ClsV c u) (k2 : TyX K H x t) (k3 : PySem.W.kitOne K t u = some b) (k : Q (.bl b) H) : rIsi K [x, c] H Q := ⟨x, c, t, u, b, rfl, k1, k2, k3, k⟩
theorem i_chain {r r' : R2} {ta tb tc : TE} (k : ta σ H fun x H1 => tb σ H1 fun y H2 => r x y H2 fun z H3 => ∃ k, z = .bl k ∧ if k = true then tc σ H3 fun y2 H4 => r' y y2 H4 Q else Q (.bl false) H3) : tChain r r' ta tb tc σ H Q := k
end
section
variable {X : Cx}
theorem pgi {x : Str} {i : Int} {pos : Pos} (h : ∃ t, X.mg x = some (.int i t)) (hg : Gl X x := by rfl) (hd : (x == ("__debug__" : Str)) = false := by decide) : PE X (.Name x pos) (tC (.int i)) := by
  obtain ⟨t, e⟩ := h
  exact pe_glob hg e ⟨t, rfl⟩ hd
theorem pcl {x : Str} {C : Addr} {pos : Pos} (h : X.mg x = some (.ref C)) (hg : Gl X x := by rfl) (hd : (x == ("__debug__" : Str)) = false := by decide) : PE X (.Name x pos) (tC (.ref C)) := pe_glob hg h rfl hd
theorem ip_mul {C : Int → Int → Prop} (hC : ∀ i j, C i j → CMulW i j) : PIp X .Mult (rI C fun i j => .int (i * j)) := by
  intro pins s σ H x y v u Q I r1 r2 h
  obtain ⟨i, j, rfl, rfl, c, q⟩ := h
  obtain ⟨t, rfl⟩ := r1
  obtain ⟨t', rfl⟩ := r2
  exact imul_int ⟨.int _, H, I.tok _, ⟨_, rfl⟩, q⟩ (hC _ _ c).ok
end
end KR

namespace KR
open PySem PySem.Spec PyProof.Rows L2
section
variable {σ : L2.St} {H : Hp} {D : Ends} {Q : VK} {K : PySem.W.Frag}
theorem i_while {c : TT} {tb : TS} (W : Nat → L2.St → Hp → Prop) (m0 : Nat) (h0 : W m0 σ H)
    (hs : ∀ m σ H, W m σ H → c σ H fun b H1 => if b = true then tb { D with nx := fun σ' H' => ∃ m', m' < m ∧ W m' σ' H', ct := fun σ' H' => ∃ m', m' < m ∧ W m' σ' H', bk := D.nx } σ H1 else D.nx σ H1)
    (mono : ∀ σ H (Q1 Q2 : Bool → Hp → Prop), (∀ b H1, Q1 b H1 → Q2 b H1) → c σ H Q1 → c σ H Q2) : tWhile c tb D σ H := by
  refine ⟨W, ⟨m0, h0⟩, fun m σ H w => mono σ H _ _ (fun b H1 q => ?_) (hs m σ H w)⟩
  cases b with
  | true => exact ⟨_, fun _ _ z => z, q⟩
  | false => exact q
/-- the same, what the test leaves stated outright -/
theorem i_whileR {c : TT} {tb : TS} (W : Nat → L2.St → Hp → Prop) (m0 : Nat) (h0 : W m0 σ H)
    (hs : ∀ m σ H, W m σ H → c σ H fun b H1 => if b = true then ∃ N : L2.St → Hp → Prop, (∀ σ' H', N σ' H' → ∃ m', m' < m ∧ W m' σ' H') ∧ tb { D with nx := N, ct := N, bk := D.nx } σ H1 else D.nx σ H1) : tWhile c tb D σ H := ⟨W, ⟨m0, h0⟩, hs⟩
def forK (J : It) (g : TG) (tb : TS) (D : Ends) (σ : L2.St) (H : Hp) : Prop := ∃ W : Nat → Nat → L2.St → Hp → Prop, (∃ m, W 0 m σ H) ∧ ∀ i m σ H, W i m σ H →
  (J.stop i H ∧ D.nx σ H) ∨ (J.go i H ∧ ∃ N : L2.St → Hp → Prop, (∀ σ' H', N σ' H' → ∃ m', m' < m ∧ W (i + 1) m' σ' H') ∧ ∀ x H', J.yld i H x H' → g x σ H' fun σ2 H2 => tb { D with nx := N, ct := N, bk := D.nx } σ2 H2)
theorem i_for {wi : TI} {g : TG} {tb : TS} (k : wi σ H fun J H1 => forK J g tb D σ H1) : tFor wi g tb D σ H := k
theorem i_forK {J : It} {n : Nat} {G : Hp → Prop} {Y : Nat → Hp → V → Hp → Prop} (w : Walk J n G Y) {g : TG} {tb : TS} (Pv : Nat → L2.St → Hp → Prop) (h0 : Pv 0 σ H) (hG : ∀ i σ H, i ≤ n → Pv i σ H → G H)
    (hs : ∀ i x σ H H', i < n → Pv i σ H → Y i H x H' → g x σ H' fun σ2 H2 => tb { D with nx := Pv (i + 1), ct := Pv (i + 1), bk := D.nx } σ2 H2) (hd : ∀ σ H, Pv n σ H → D.nx σ H) : forK J g tb D σ H := for_it w Pv h0 hG hs hd
def listK (K : PySem.W.Frag) (x : V) (H : Hp) (R : It → Hp → Prop) : Prop := ∃ a, x = .ref a ∧ (∃ xs, SqL K H a xs) ∧ R (Itl K a) H
theorem i_list {tl : TE} {R : It → Hp → Prop} (k : tl σ H fun x H1 => listK K x H1 R) : iList K tl σ H R := k
theorem i_listK {a : Addr} {xs : List V} {R : It → Hp → Prop} (h : SqL K H a xs) (k : R (Itl K a) H) : listK K (.ref a) H R := ⟨a, rfl, ⟨xs, h⟩, k⟩
def rngK (vs : List V) (H : Hp) (R : It → Hp → Prop) : Prop := ∃ j : Int, vs = [.int j] ∧ -(2 ^ 62) ≤ j ∧ j < 2 ^ 62 ∧ R (Itr 0 j.toNat) H
theorem i_rng1 {ta : TA} {R : It → Hp → Prop} (k : ta σ H fun vs H1 => rngK vs H1 R) : iRng1 ta σ H R := k
theorem i_rngK {j : Int} {R : It → Hp → Prop} (b1 : -(2 ^ 62) ≤ j) (b2 : j < 2 ^ 62) (k : R (Itr 0 j.toNat) H) : rngK [.int j] H R := ⟨j, rfl, b1, b2, k⟩
def keysK (x : V) (H : Hp) (R : It → Hp → Prop) : Prop := ∃ d o, x = .ref d ∧ ((∃ kvs, H d = some (.frz o (.dK kvs)) ∧ R (Itk d o kvs) H) ∨ ∃ kvs, H d = some (.frz o (.dT kvs)) ∧ R (Itkt d o kvs) H)
theorem i_keys {td : TE} {R : It → Hp → Prop} (k : td σ H fun x H1 => keysK x H1 R) : iKeys td σ H R := k
theorem i_keysT {d : Addr} {o : Obj} {kvs : List (List Key × V)} {R : It → Hp → Prop} (h : H d = some (.frz o (.dT kvs))) (k : R (Itkt d o kvs) H) : keysK (.ref d) H R := ⟨d, o, rfl, .inr ⟨kvs, h, k⟩⟩
def lcK (J : It) (g : TG) (tt : TT) (te : TE) (vs : List Nat) (σ : L2.St) (H1 : Hp) (Q : VK) : Prop := ∀ D, H1 D = none → ∃ W : Nat → Nat → Hp → Prop, (∃ m, W 0 m (upd H1 D (.lst []))) ∧ ∀ i m H, W i m H →
  (J.stop i H ∧ Q (.ref D) H) ∨ (J.go i H ∧ ∃ Nx : Hp → Prop, (∀ H', Nx H' → ∃ m', m' < m ∧ W (i + 1) m' H') ∧ ∀ x H', J.yld i H x H' → g x (wipe σ vs) H' fun σ2 H2 => wipe σ2 vs = wipe σ vs ∧ tt σ2 H2 fun b H3 =>
    if b = true then te σ2 H3 fun y H4 => ∃ acc, H4 D = some (.lst acc) ∧ acc.length < sizeLine ∧ Nx (upd H4 D (.lst (acc ++ [y]))) else Nx H3)
theorem i_lc {wi : TI} {g : TG} {tt : TT} {te : TE} {vs : List Nat} (k : wi σ H fun J H1 => lcK J g tt te vs σ H1 Q) : tLc wi g tt te vs σ H Q := k
theorem i_lcK {J : It} {n : Nat} {G : Hp → Prop} {Y : Nat → Hp → V → Hp → Prop} (w : Walk J n G Y) {g : TG} {tt : TT} {te : TE} {vs : List Nat} (Pv : Addr → Nat → Hp → Prop) (h0 : ∀ D H', H D = none → H' D = some (.lst []) → Same H H' → Pv D 0 H') (hG : ∀ D i H, i ≤ n → Pv D i H → G H)
    (hs : ∀ D i x H H', i < n → Pv D i H → Y i H x H' → g x (wipe σ vs) H' fun σ2 H2 => wipe σ2 vs = wipe σ vs ∧ tt σ2 H2 fun b H3 =>
      if b = true then te σ2 H3 fun y H4 => ∃ acc, H4 D = some (.lst acc) ∧ acc.length < sizeLine ∧ Pv D (i + 1) (upd H4 D (.lst (acc ++ [y]))) else Pv D (i + 1) H3) (hd : ∀ D H, Pv D n H → Q (.ref D) H) : lcK J g tt te vs σ H Q :=
  fun D hD => lc_it w (Pv D) (h0 D _ hD upd_same (Same.upd hD)) (hG D) (hs D) (hd D)
theorem i_yes {R : Bool → Hp → Prop} (k : R true H) : tYes σ H R := k
def dputK (x y v : V) (H : Hp) (R : Hp → Prop) : Prop := ∃ d H4, x = .ref d ∧ DPut H d y v H4 ∧ R H4
theorem i_dput {td ty tv : TE} (k : tv σ H fun v H1 => td σ H1 fun x H2 => ty σ H2 fun y H3 => dputK x y v H3 fun H4 => D.nx σ H4) : sDPut td ty tv D σ H := k
def dgetK (x y : V) (H : Hp) (Q : VK) : Prop := ∃ a v, x = .ref a ∧ DGet H a y (some v) ∧ Q v H
theorem i_dget {td ty : TE} (k : td σ H fun x H1 => ty σ H1 fun y H2 => dgetK x y H2 Q) : tDGet td ty σ H Q := k
def dinK (x y : V) (H : Hp) (R : Bool → Hp → Prop) : Prop := ∃ a o, x = .ref a ∧ DGet H a y o ∧ R o.isSome H
theorem i_din {td ty : TE} (k : ty σ H fun y H1 => td σ H1 fun x H2 => dinK x y H2 fun b H3 => Q (.bl b) H3) : tDIn ty td σ H Q := k
theorem i_dnotin {td ty : TE} (k : ty σ H fun y H1 => td σ H1 fun x H2 => dinK x y H2 fun b H3 => Q (.bl (!b)) H3) : tDNotIn ty td σ H Q := k
def isdK (x : V) (H : Hp) (R : Addr → Hp → Prop) : Prop := ∃ a, x = .ref a ∧ IsD H a ∧ R a H
theorem i_dget1 {td ty : TE} (k : td σ H fun x H1 => isdK x H1 fun a H1 => ty σ H1 fun y H2 => ∃ o, DGet H2 a y o ∧ Q (o.getD .non) H2) : tDGet1 td ty σ H Q := k
theorem i_dget2 {td ty tx : TE} (k : td σ H fun x H1 => isdK x H1 fun a H1 => ty σ H1 fun y H2 => tx σ H2 fun z H3 => ∃ o, DGet H3 a y o ∧ Q (o.getD z) H3) : tDGet2 td ty tx σ H Q := k
theorem i_dpop2 {td ty tx : TE} (k : td σ H fun x H1 => isdK x H1 fun a H1 => ty σ H1 fun y H2 => tx σ H2 fun z H3 => ∃ kvs k, H3 a = some (.dK kvs) ∧ y = kV k ∧ (∀ v, valV kvs k = some v → Q v (upd H3 a (.dK (dropK kvs k)))) ∧ (valV kvs k = none → Q z H3)) : tDPop2 td ty tx σ H Q := k
theorem i_isdK {a : Addr} {kvs : List (Key × V)} {R : Addr → Hp → Prop} (h : H a = some (.dK kvs)) (k : R a H) : isdK (.ref a) H R := ⟨a, rfl, .inl ⟨kvs, .inl h⟩, k⟩
theorem i_isdT {a : Addr} {kvs : List (List Key × V)} {R : Addr → Hp → Prop} (h : H a = some (.dT kvs)) (k : R a H) : isdK (.ref a) H R := ⟨a, rfl, .inr ⟨kvs, .inl h⟩, k⟩
theorem i_max2 {i j : Int} (k : Q (.int (if j > i then j else i)) H) : ∃ i' j', [V.int i, V.int j] = [.int i', .int j'] ∧ Q (.int (if j' > i' then j' else i')) H := ⟨i, j, rfl, k⟩
theorem i_min2 {i j : Int} (k : Q (.int (if j < i then j else i)) H) : ∃ i' j', [V.int i, V.int j] = [.int i', .int j'] ∧ Q (.int (if j' < i' then j' else i')) H := ⟨i, j, rfl, k⟩
theorem i_divmod {i j : Int} (c : CDiv i j) (k : newK (.tup [.int (i / j), .int (i % j)]) H Q) : ∃ i' j', [V.int i, V.int j] = [.int i', .int j'] ∧ CDiv i' j' ∧ ∀ p, H p = none → Q (.ref p) (upd H p (.tup [.int (i' / j'), .int (i' % j')])) := ⟨i, j, rfl, c, newK.to k⟩
theorem i_notN {v : V} (k : Q (.bl (!decide (v = .non))) H) : V.non = .non ∧ Q (.bl (!decide (v = .non))) H := ⟨rfl, k⟩
theorem i_isNk {v : V} (k : Q (.bl (decide (v = .non))) H) : V.non = .non ∧ Q (.bl (decide (v = .non))) H := ⟨rfl, k⟩
def gtupK (K : PySem.W.Frag) (n : Nat) (v : V) (H : Hp) (R : List V → Prop) : Prop := ∃ a xs, v = .ref a ∧ SqT K H a xs ∧ xs.length = n ∧ R xs
theorem i_gtup {n : Nat} {t : TGs} {v : V} {R : L2.St → Hp → Prop} (k : gtupK K n v H fun xs => t xs σ H R) : gTup K n t v σ H R := k
theorem i_gtupK {n : Nat} {a : Addr} {xs : List V} {R : List V → Prop} (h : H a = some (.tup xs)) (e : xs.length = n) (k : R xs) : gtupK K n (.ref a) H R := ⟨a, xs, rfl, SqT.of h, e, k⟩
theorem i_gcons {t : TG} {u : TGs} {v : V} {r : List V} {R : L2.St → Hp → Prop} (k : t v σ H fun σ' H' => u r σ' H' R) : gCons t u (v :: r) σ H R := ⟨v, r, rfl, k⟩
theorem i_gnil {R : L2.St → Hp → Prop} (k : R σ H) : gNil [] σ H R := ⟨rfl, k⟩
end
end KR
namespace KR
open PySem PySem.Spec PyProof.Rows L2
section
variable {σ : L2.St} {H : Hp} {D : Ends}
theorem i_tpar3 {i j l : Nat} {ta : TA} (k : ta σ H fun vs H1 => ∃ u v w, vs = [u, v, w] ∧ D.nx (((σ.set i (some u)).set j (some v)).set l (some w)) H1) : tPar3 i j l ta D σ H := k
theorem i_par3 {i j l : Nat} {u v x : V} (k : D.nx (((σ.set i (some u)).set j (some v)).set l (some x)) H) : ∃ a b c, [u, v, x] = [a, b, c] ∧ D.nx (((σ.set i (some a)).set j (some b)).set l (some c)) H := ⟨u, v, x, rfl, k⟩
end
end KR
namespace KR
open PySem PySem.Spec PyProof.Rows L2
/-! readings by name -/
def rLenQ (K : PySem.W.Frag) : List V → Hp → VK → Prop := fun xs H Q => ∃ p ys, xs = [.ref p] ∧ (SqL K H p ys ∨ SqT K H p ys) ∧ Q (.int ys.length) H
def rMax2 : List V → Hp → VK → Prop := fun xs H Q => ∃ i j, xs = [.int i, .int j] ∧ Q (.int (if j > i then j else i)) H
def rMin2 : List V → Hp → VK → Prop := fun xs H Q => ∃ i j, xs = [.int i, .int j] ∧ Q (.int (if j < i then j else i)) H
def rDivmod : List V → Hp → VK → Prop := fun xs H Q => ∃ i j, xs = [.int i, .int j] ∧ CDiv i j ∧ ∀ p, H p = none → Q (.ref p) (upd H p (.tup [.int (i / j), .int (i % j)]))
def rListOf (K : PySem.W.Frag) : List V → Hp → VK → Prop := fun xs H Q => ∃ p ys, xs = [.ref p] ∧ (SqL K H p ys ∨ SqT K H p ys) ∧ ∀ l, H l = none → Q (.ref l) (upd H l (.lst ys))
def rTupOf (K : PySem.W.Frag) : List V → Hp → VK → Prop := fun xs H Q => ∃ p ys, xs = [.ref p] ∧ ((SqL K H p ys ∧ ∀ l, H l = none → Q (.ref l) (upd H l (.tup ys))) ∨ (SqT K H p ys ∧ Q (.ref p) H))
def rIsNone : R2 := fun x y H Q => y = .non ∧ Q (.bl (decide (x = .non))) H
def rNotNone : R2 := fun x y H Q => y = .non ∧ Q (.bl (!decide (x = .non))) H
section
variable {X : Cx}
theorem call_lenQ : CallR X (.builtin "len") (rLenQ X.K) := call_len_seq
theorem call_max2Q (hc : X.calm = true) : CallR X (.builtin "max") rMax2 := call_max2 hc
theorem call_min2Q (hc : X.calm = true) : CallR X (.builtin "min") rMin2 := call_min2 hc
theorem call_divmodQ : CallR X (.builtin "divmod") rDivmod := call_divmod
theorem call_listQ : CallR X (.type "list") (rListOf X.K) := call_list_of
theorem call_tupleQ : CallR X (.type "tuple") (rTupOf X.K) := call_tuple_of
theorem op_isNQ : OpR X (compareOp .Is) rIsNone := op_isN
theorem op_notNQ : OpR X (compareOp .IsNot) rNotNone := op_notN
end
section
variable {H : Hp} {Q : VK} {K : PySem.W.Frag}
theorem q_lenL {a : Addr} {xs : List V} (h : H a = some (.lst xs)) (k : Q (.int xs.length) H) : rLenQ K [.ref a] H Q := ⟨a, xs, rfl, .inl (SqL.of h), k⟩
theorem q_lenT {a : Addr} {xs : List V} (h : H a = some (.tup xs)) (k : Q (.int xs.length) H) : rLenQ K [.ref a] H Q := ⟨a, xs, rfl, .inr (SqT.of h), k⟩
theorem q_max2 {i j : Int} (k : Q (.int (if j > i then j else i)) H) : rMax2 [.int i, .int j] H Q := ⟨i, j, rfl, k⟩
theorem q_min2 {i j : Int} (k : Q (.int (if j < i then j else i)) H) : rMin2 [.int i, .int j] H Q := ⟨i, j, rfl, k⟩
theorem q_divmod {i j : Int} (c : CDiv i j) (k : newK (.tup [.int (i / j), .int (i % j)]) H Q) : rDivmod [.int i, .int j] H Q := ⟨i, j, rfl, c, newK.to k⟩
theorem q_listL {a : Addr} {xs : List V} (h : H a = some (.lst xs)) (k : newK (.lst xs) H Q) : rListOf K [.ref a] H Q := ⟨a, xs, rfl, .inl (SqL.of h), newK.to k⟩
theorem q_listT {a : Addr} {xs : List V} (h : H a = some (.tup xs)) (k : newK (.lst xs) H Q) : rListOf K [.ref a] H Q := ⟨a, xs, rfl, .inr (SqT.of h), newK.to k⟩
theorem q_tupL {a : Addr} {xs : List V} (h : H a = some (.lst xs)) (k : newK (.tup xs) H Q) : rTupOf K [.ref a] H Q := ⟨a, xs, rfl, .inl ⟨SqL.of h, newK.to k⟩⟩
theorem q_isN {v : V} (k : Q (.bl (decide (v = .non))) H) : rIsNone v .non H Q := ⟨rfl, k⟩
theorem q_notN {v : V} (k : Q (.bl (!decide (v = .non))) H) : rNotNone v .non H Q := ⟨rfl, k⟩
end
end KR
namespace KR
open PySem PySem.Spec PyProof.Rows L2
section
variable {σ : L2.St} {H : Hp} {D : Ends} {Q : VK} {K : PySem.W.Frag}
theorem i_setKo {f : Str} {a C dx : Addr} {fs : List (Str × V)} {y : V} {R : Hp → Prop} (h : H a = some (.ins C dx fs)) (c : Cls K C) (n : NoAttr K C f) (l : fs.length < 1000)
    (k : ∀ H', H' a = some (.ins C dx (putF f y fs)) → (∀ b, b ≠ a → H' b = H b) → R H') : setK K f (.ref a) y H R := i_setK h c n l (k _ upd_same fun _ hb => upd_ne hb)
def makeK (C : Addr) (sp : Sp) (dvs : List V) (E : XK) (vs : List V) (H : Hp) (Q : VK) : Prop := ∀ x dx, H x = none → H dx = none → dx ≠ x → sp (.ref x :: (vs ++ dvs)) (upd (upd H dx (.own x)) x (.ins C dx [])) (fun v H2 => v = .non ∧ Q (.ref x) H2) E
theorem i_make {C : Addr} {sp : Sp} {dvs : List V} {E : XK} {t : TA} (k : t σ H fun vs H1 => makeK C sp dvs E vs H1 Q) : tMake C sp dvs E t σ H Q := k
theorem i_makeK {C : Addr} {sp : Sp} {dvs : List V} {E : XK} {vs : List V} (k : ∀ x dx H', H x = none → H dx = none → H' x = some (.ins C dx []) → Same H H' → sp (.ref x :: (vs ++ dvs)) H' (fun v H2 => v = .non ∧ Q (.ref x) H2) E) : makeK C sp dvs E vs H Q :=
  fun x dx hx hd _ => k x dx _ hx hd upd_same fun b o e => by rw [upd_ne (ne_of_none e hx), upd_ne (ne_of_none e hd)]; exact e
theorem i_app {l : Addr} {xs : List V} {y : V} (h : H l = some (.lst xs)) (z : xs.length < sizeLine) (k : ∀ H', H' l = some (.lst (xs ++ [y])) → (∀ b, b ≠ l → H' b = H b) → Q .non H') : rAppend (.ref l) [y] H Q := i_append h z (k _ upd_same fun _ hb => upd_ne hb)
theorem i_dputK {d : Addr} {kvs : List (Key × V)} {ky : Key} {v : V} {R : Hp → Prop} (h : H d = some (.dK kvs)) (z : kvs.length < sizeLine) (k : ∀ H', H' d = some (.dK (putK kvs ky v)) → (∀ b, b ≠ d → H' b = H b) → R H') : dputK (.ref d) (kV ky) v H R :=
  ⟨d, _, rfl, DPut.k h z, k _ upd_same fun _ hb => upd_ne hb⟩
theorem i_dinK {d : Addr} {kvs : List (Key × V)} {ky : Key} {R : Bool → Hp → Prop} (h : H d = some (.dK kvs)) (k : R (valV kvs ky).isSome H) : dinK (.ref d) (kV ky) H R := ⟨d, _, rfl, DGet.k h, k⟩
theorem i_dgetK {d : Addr} {kvs : List (Key × V)} {ky : Key} {v : V} (h : H d = some (.dK kvs)) (e : valV kvs ky = some v) (k : Q v H) : dgetK (.ref d) (kV ky) H Q := by
  have g := DGet.k (k := ky) h
  rw [e] at g
  exact ⟨d, v, rfl, g, k⟩
end
end KR
namespace KR
open PySem PySem.Spec PyProof.Rows L2
section
variable {X : Cx}
theorem ip_mulW : PIp X .Mult (rI CMulW fun i j => .int (i * j)) := ip_mul fun _ _ h => h
end
section
variable {H : Hp} {Q : VK} {K : PySem.W.Frag}
theorem q_sortedD {d : Addr} {kvs : List (Key × V)} {ks : List Int} (h : H d = some (.dK kvs)) (e : kvs.map (·.1) = ks.map Sum.inl) (k : ∀ zs : List Int, zs.Perm ks → zs.Pairwise (· ≤ ·) → newK (.lst (zs.map V.int)) H Q) : rSortedDict [.ref d] H Q :=
  ⟨d, kvs, ks, rfl, .inl h, e, fun zs q p1 p2 nq => newK.to (k zs p1 p2) q nq⟩
theorem q_cat {a b : Addr} {xs ys : List V} (h1 : H a = some (.lst xs)) (h2 : H b = some (.lst ys)) (z : xs.length + ys.length ≤ sizeLine) (k : newK (.lst (xs ++ ys)) H Q) : rCat (.ref a) (.ref b) H Q := ⟨a, b, xs, ys, rfl, rfl, h1, h2, z, newK.to k⟩
/-- two sorted lists of the same ints are one -/
theorem sorted_one {l m : List Int} (p : l.Perm m) (h1 : l.Pairwise (· ≤ ·)) (h2 : m.Pairwise (· ≤ ·)) : l = m := List.Perm.eq_of_pairwise (fun _ _ _ _ => Int.le_antisymm) h1 h2 p
end
end KR
namespace KR
open PySem PySem.Spec PyProof.Rows L2
/-! d.pop(k), the key a tuple that is there -/
def rPopThere : V → List V → Hp → VK → Prop := fun x xs H Q => ∃ (d : Addr) (kvs : List (List L2.Key × V)) (k : List L2.Key) (b : Addr) (v : V), x = .ref d ∧ xs = [.ref b] ∧ H d = some (.dT kvs) ∧ H b = some (.tup (k.map kV)) ∧ valV kvs k = some v ∧ Q v (upd H d (.dT (dropK kvs k)))
theorem withoutH_drop {α : Type} [DecidableEq α] (xs : List (α × Addr × Value)) (k : α) : withoutH xs k = DT.dropH xs k := by
  unfold withoutH DT.dropH
  refine List.filter_congr fun x _ => ?_
  by_cases h : x.1 = k <;> simp [h]
theorem mt_popT1 {X : Cx} (hu : X.A.units + 1 < cLine) : MtR X "dict.pop" rPopThere := by
  intro pins s σ H x xs v us Q I rx rxs h
  obtain ⟨d, kvs, k, b, v0, rfl, rfl, hd0, hb, hv, q⟩ := h
  cases rx
  obtain ⟨u1, rfl, r1⟩ := vals1 rxs
  cases r1
  obtain ⟨z, hsys, xs', rel, dd⟩ := dt_of I.hok hd0
  have hz : xs'.length ≤ sizeLine := by rw [← Paired.length rel]; exact z
  have r := rel.val k
  rw [hv] at r
  cases e : atKey xs' k with
  | none =>
    rw [e] at r
    exact (show False from r).elim
  | some p =>
    rw [e] at r
    refine call_pop_heap (more := []) (.inl rfl) (PySem.F.args_dict_pop_2 _ _) (tupleKind_room_in1 hu) (key_of I.hok hb) hsys dd e (fun h' dd' hs => ?_) hz
    rw [withoutH_drop] at dd'
    obtain ⟨o, es, ep, hq, h2, h3, h4, _, h5⟩ := dd'
    exact ⟨v0, _, d_write (t' := _) (ob := .dT (dropK kvs k)) I (by rw [hd0]; exact True.intro) hs ⟨o, hq⟩ ⟨Nat.le_trans (dropK_le kvs k) z, hsys, _, (L2.DX.KT_drop k rel).keeps (fun c ys ec => (by rw [upd_ne (ne_of ec hd0 (fun z => nomatch z))]; exact ec)), o, es, ep, hq, h2, h3, h4, h5⟩, r, q⟩
end KR

namespace K90
open PySem PySem.Spec PyProof.Rows L2
/-! ### the text by places -/
def top (i : Nat) : Stmt := PySem.Challenge.pw_keeprows_k90_where_stores_part.main.body.getD i (.Pass ⟨0, 0, 0, 0⟩)
abbrev FnP (K : PySem.W.Frag) (x q : Str) (st : Stmt) (f : Addr) (fd : FuncData) : Prop := FunD K x q (defArgs st) (defBody st) (defScope st) [] [] f fd
abbrev s_is_integer : Stmt := top 14
theorem sc_is_integer : FnScope ["value"] ["value"] (defScope s_is_integer) := ⟨rfl, rfl, rfl, by decide +kernel, rfl, by decide +kernel, by decide +kernel⟩
abbrev s_is_between : Stmt := top 15
theorem sc_is_between : FnScope ["value", "low", "high"] ["value", "low", "high"] (defScope s_is_between) := ⟨rfl, rfl, rfl, by decide +kernel, rfl, by decide +kernel, by decide +kernel⟩
abbrev s_check_part : Stmt := top 16
theorem sc_check_part : FnScope ["part", "value", "low", "high"] ["part", "value", "low", "high"] (defScope s_check_part) := ⟨rfl, rfl, rfl, by decide +kernel, rfl, by decide +kernel, by decide +kernel⟩
abbrev s_check_settings : Stmt := top 18
theorem sc_check_settings : FnScope ["value"] ["value"] (defScope s_check_settings) := ⟨rfl, rfl, rfl, by decide +kernel, rfl, by decide +kernel, by decide +kernel⟩
abbrev s_root_level : Stmt := top 23
theorem sc_root_level : FnScope ["oldest", "newest", "fanout", "level"] ["oldest", "newest", "fanout"] (defScope s_root_level) := ⟨rfl, rfl, rfl, by decide +kernel, rfl, by decide +kernel, by decide +kernel⟩
abbrev s_rows_alike : Stmt := top 29
theorem sc_rows_alike : FnScope ["one", "other", "first", "second", "many", "page"] ["one", "other"] (defScope s_rows_alike) := ⟨rfl, rfl, rfl, by decide +kernel, rfl, by decide +kernel, by decide +kernel⟩
abbrev s_are_alike : Stmt := top 30
theorem sc_are_alike : FnScope ["one", "other", "mine"] ["one", "other"] (defScope s_are_alike) := ⟨rfl, rfl, rfl, by decide +kernel, rfl, by decide +kernel, by decide +kernel⟩
abbrev s_first_parting : Stmt := top 31
theorem sc_first_parting : FnScope ["one", "other", "first", "second", "row"] ["one", "other"] (defScope s_first_parting) := ⟨rfl, rfl, rfl, by decide +kernel, rfl, by decide +kernel, by decide +kernel⟩
abbrev s_law_digits : Stmt := top 33
theorem sc_law_digits : FnScope ["cell", "many", "digits", "rest", "number", "k"] ["cell", "many"] (defScope s_law_digits) := ⟨rfl, rfl, rfl, by decide +kernel, rfl, by decide +kernel, by decide +kernel⟩
abbrev s_law_parts : Stmt := top 34
theorem sc_law_parts : FnScope ["digits", "size", "lengths", "k", "parts"] ["digits"] (defScope s_law_parts) := ⟨rfl, rfl, rfl, by decide +kernel, rfl, by decide +kernel, by decide +kernel⟩
abbrev s_law_settings : Stmt := top 35
theorem sc_law_settings : FnScope ["parts", "fan", "many", "pace", "kept", "word"] ["parts"] (defScope s_law_settings) := ⟨rfl, rfl, rfl, by decide +kernel, rfl, by decide +kernel, by decide +kernel⟩
abbrev s_law_changed : Stmt := top 36
theorem sc_law_changed : FnScope ["parts", "digits", "found", "case_so", "length"] ["parts", "digits"] (defScope s_law_changed) := ⟨rfl, rfl, rfl, by decide +kernel, rfl, by decide +kernel, by decide +kernel⟩
abbrev s_law_begun_alike : Stmt := top 37
theorem sc_law_begun_alike : FnScope ["parts", "digits", "found", "lengths"] ["parts", "digits"] (defScope s_law_begun_alike) := ⟨rfl, rfl, rfl, by decide +kernel, rfl, by decide +kernel, by decide +kernel⟩
abbrev s_law_first_unlike : Stmt := top 38
theorem sc_law_first_unlike : FnScope ["one", "other", "many", "first", "second", "row"] ["one", "other", "many"] (defScope s_law_first_unlike) := ⟨rfl, rfl, rfl, by decide +kernel, rfl, by decide +kernel, by decide +kernel⟩
abbrev s_law_long_parts : Stmt := top 39
theorem sc_law_long_parts : FnScope ["digits", "parts", "word"] ["digits"] (defScope s_law_long_parts) := ⟨rfl, rfl, rfl, by decide +kernel, rfl, by decide +kernel, by decide +kernel⟩
abbrev s_law_long_right : Stmt := top 40
theorem sc_law_long_right : FnScope ["digits", "parts", "word", "other", "rows", "due", "one", "second"] ["digits"] (defScope s_law_long_right) := ⟨rfl, rfl, rfl, by decide +kernel, rfl, by decide +kernel, by decide +kernel⟩
abbrev s_law : Stmt := top 41
theorem sc_law : FnScope ["script", "cell", "digits", "parts", "one", "menu", "some", "other", "due"] ["script"] (defScope s_law) := ⟨rfl, rfl, rfl, by decide +kernel, rfl, by decide +kernel, by decide +kernel⟩
abbrev s_Settings_init : Stmt := inClass (top 17) 0
theorem sc_Settings_init : FnScope ["self", "lengths", "size", "fanout", "records", "every", "keep", "length"] ["self", "lengths", "size", "fanout", "records", "every", "keep"] (defScope s_Settings_init) := ⟨rfl, rfl, rfl, by decide +kernel, rfl, by decide +kernel, by decide +kernel⟩
abbrev s_Packing_init : Stmt := inClass (top 21) 0
theorem sc_Packing_init : FnScope ["self", "settings", "seen"] ["self", "settings"] (defScope s_Packing_init) := ⟨rfl, rfl, rfl, by decide +kernel, rfl, by decide +kernel, by decide +kernel⟩
abbrev s_Packing_length : Stmt := inClass (top 21) 1
theorem sc_Packing_length : FnScope ["self", "row"] ["self", "row"] (defScope s_Packing_length) := ⟨rfl, rfl, rfl, by decide +kernel, rfl, by decide +kernel, by decide +kernel⟩
abbrev s_Packing_rows_from : Stmt := inClass (top 21) 2
theorem sc_Packing_rows_from : FnScope ["self", "row", "found", "units"] ["self", "row"] (defScope s_Packing_rows_from) := ⟨rfl, rfl, rfl, by decide +kernel, rfl, by decide +kernel, by decide +kernel⟩
abbrev s_Packing_start : Stmt := inClass (top 21) 3
theorem sc_Packing_start : FnScope ["self", "page", "times", "place"] ["self", "page"] (defScope s_Packing_start) := ⟨rfl, rfl, rfl, by decide +kernel, rfl, by decide +kernel, by decide +kernel⟩
abbrev s_Core_init : Stmt := inClass (top 25) 0
theorem sc_Core_init : FnScope ["self", "settings", "packing"] ["self", "settings", "packing"] (defScope s_Core_init) := ⟨rfl, rfl, rfl, by decide +kernel, rfl, by decide +kernel, by decide +kernel⟩
abbrev s_Store_init : Stmt := inClass (top 27) 0
theorem sc_Store_init : FnScope ["self", "settings"] ["self", "settings"] (defScope s_Store_init) := ⟨rfl, rfl, rfl, by decide +kernel, rfl, by decide +kernel, by decide +kernel⟩
abbrev s_Core_make : Stmt := inClass (top 25) 2
theorem sc_Core_make : FnScope ["self", "number"] ["self", "number"] (defScope s_Core_make) := ⟨rfl, rfl, rfl, by decide +kernel, rfl, by decide +kernel, by decide +kernel⟩
abbrev s_Core_take : Stmt := inClass (top 25) 3
theorem sc_Core_take : FnScope ["self", "role", "page"] ["self", "role"] (defScope s_Core_take) := ⟨rfl, rfl, rfl, by decide +kernel, rfl, by decide +kernel, by decide +kernel⟩
abbrev s_Core_give : Stmt := inClass (top 25) 4
theorem sc_Core_give : FnScope ["self", "page", "role"] ["self", "page", "role"] (defScope s_Core_give) := ⟨rfl, rfl, rfl, by decide +kernel, rfl, by decide +kernel, by decide +kernel⟩
abbrev s_Core_newest : Stmt := inClass (top 25) 5
theorem sc_Core_newest : FnScope ["self"] ["self"] (defScope s_Core_newest) := ⟨rfl, rfl, rfl, by decide +kernel, rfl, by decide +kernel, by decide +kernel⟩
abbrev s_Core_change : Stmt := inClass (top 25) 6
theorem sc_Core_change : FnScope ["self", "level", "number", "page"] ["self", "level", "number"] (defScope s_Core_change) := ⟨rfl, rfl, rfl, by decide +kernel, rfl, by decide +kernel, by decide +kernel⟩
abbrev s_Core_begin_page : Stmt := inClass (top 25) 7
theorem sc_Core_begin_page : FnScope ["self", "number", "level", "width", "begun", "at", "wanted", "one"] ["self"] (defScope s_Core_begin_page) := ⟨rfl, rfl, rfl, by decide +kernel, rfl, by decide +kernel, by decide +kernel⟩
abbrev s_Core_end_page : Stmt := inClass (top 25) 8
theorem sc_Core_end_page : FnScope ["self", "number", "level", "ended", "place", "width", "at", "one"] ["self"] (defScope s_Core_end_page) := ⟨rfl, rfl, rfl, by decide +kernel, rfl, by decide +kernel, by decide +kernel⟩
abbrev s_Core_checkpoint : Stmt := inClass (top 25) 9
theorem sc_Core_checkpoint : FnScope ["self", "page"] ["self"] (defScope s_Core_checkpoint) := ⟨rfl, rfl, rfl, by decide +kernel, rfl, by decide +kernel, by decide +kernel⟩
abbrev s_Core_put_row : Stmt := inClass (top 25) 13
theorem sc_Core_put_row : FnScope ["self", "row", "place"] ["self"] (defScope s_Core_put_row) := ⟨rfl, rfl, rfl, by decide +kernel, rfl, by decide +kernel, by decide +kernel⟩
abbrev s_Store_note : Stmt := inClass (top 27) 14
theorem sc_Store_note : FnScope ["self", "kind", "page", "role"] ["self", "kind", "page", "role"] (defScope s_Store_note) := ⟨rfl, rfl, rfl, by decide +kernel, rfl, by decide +kernel, by decide +kernel⟩
abbrev s_Store_step : Stmt := inClass (top 27) 15
theorem sc_Store_step : FnScope ["self"] ["self"] (defScope s_Store_step) := ⟨rfl, rfl, rfl, by decide +kernel, rfl, by decide +kernel, by decide +kernel⟩
/-! ### the head: facts by names -/
def d_is_integer : He.DefD := ⟨("is_integer", none), "is_integer", "is_integer", defArgs s_is_integer, defBody s_is_integer, defScope s_is_integer, [], []⟩
def d_is_between : He.DefD := ⟨("is_between", none), "is_between", "is_between", defArgs s_is_between, defBody s_is_between, defScope s_is_between, [], []⟩
def d_check_part : He.DefD := ⟨("check_part", none), "check_part", "check_part", defArgs s_check_part, defBody s_check_part, defScope s_check_part, [], []⟩
def d_check_settings : He.DefD := ⟨("check_settings", none), "check_settings", "check_settings", defArgs s_check_settings, defBody s_check_settings, defScope s_check_settings, [], []⟩
def d_root_level : He.DefD := ⟨("root_level", none), "root_level", "root_level", defArgs s_root_level, defBody s_root_level, defScope s_root_level, [], []⟩
def d_rows_alike : He.DefD := ⟨("rows_alike", none), "rows_alike", "rows_alike", defArgs s_rows_alike, defBody s_rows_alike, defScope s_rows_alike, [], []⟩
def d_are_alike : He.DefD := ⟨("are_alike", none), "are_alike", "are_alike", defArgs s_are_alike, defBody s_are_alike, defScope s_are_alike, [], []⟩
def d_first_parting : He.DefD := ⟨("first_parting", none), "first_parting", "first_parting", defArgs s_first_parting, defBody s_first_parting, defScope s_first_parting, [], []⟩
def d_law_digits : He.DefD := ⟨("_law_digits", none), "_law_digits", "_law_digits", defArgs s_law_digits, defBody s_law_digits, defScope s_law_digits, [], []⟩
def d_law_parts : He.DefD := ⟨("_law_parts", none), "_law_parts", "_law_parts", defArgs s_law_parts, defBody s_law_parts, defScope s_law_parts, [], []⟩
def d_law_settings : He.DefD := ⟨("_law_settings", none), "_law_settings", "_law_settings", defArgs s_law_settings, defBody s_law_settings, defScope s_law_settings, [], []⟩
def d_law_changed : He.DefD := ⟨("_law_changed", none), "_law_changed", "_law_changed", defArgs s_law_changed, defBody s_law_changed, defScope s_law_changed, [], []⟩
def d_law_begun_alike : He.DefD := ⟨("_law_begun_alike", none), "_law_begun_alike", "_law_begun_alike", defArgs s_law_begun_alike, defBody s_law_begun_alike, defScope s_law_begun_alike, [], []⟩
def d_law_first_unlike : He.DefD := ⟨("_law_first_unlike", none), "_law_first_unlike", "_law_first_unlike", defArgs s_law_first_unlike, defBody s_law_first_unlike, defScope s_law_first_unlike, [], []⟩
def d_law_long_parts : He.DefD := ⟨("_law_long_parts", none), "_law_long_parts", "_law_long_parts", defArgs s_law_long_parts, defBody s_law_long_parts, defScope s_law_long_parts, [], []⟩
def d_law_long_right : He.DefD := ⟨("_law_long_right", none), "_law_long_right", "_law_long_right", defArgs s_law_long_right, defBody s_law_long_right, defScope s_law_long_right, [], []⟩
def d_law : He.DefD := ⟨("law", none), "law", "law", defArgs s_law, defBody s_law, defScope s_law, [], []⟩
def d_Settings_init : He.DefD := ⟨("Settings", some "__init__"), "__init__", "Settings.__init__", defArgs s_Settings_init, defBody s_Settings_init, defScope s_Settings_init, [], []⟩
def d_Packing_init : He.DefD := ⟨("Packing", some "__init__"), "__init__", "Packing.__init__", defArgs s_Packing_init, defBody s_Packing_init, defScope s_Packing_init, [], []⟩
def d_Packing_length : He.DefD := ⟨("Packing", some "length"), "length", "Packing.length", defArgs s_Packing_length, defBody s_Packing_length, defScope s_Packing_length, [], []⟩
def d_Packing_rows_from : He.DefD := ⟨("Packing", some "rows_from"), "rows_from", "Packing.rows_from", defArgs s_Packing_rows_from, defBody s_Packing_rows_from, defScope s_Packing_rows_from, [], []⟩
def d_Packing_start : He.DefD := ⟨("Packing", some "start"), "start", "Packing.start", defArgs s_Packing_start, defBody s_Packing_start, defScope s_Packing_start, [], []⟩
def d_Book_init : He.DefD := ⟨("Book", some "__init__"), "__init__", "Core.__init__", defArgs s_Core_init, defBody s_Core_init, defScope s_Core_init, [], []⟩
def d_Store_init : He.DefD := ⟨("Store", some "__init__"), "__init__", "Store.__init__", defArgs s_Store_init, defBody s_Store_init, defScope s_Store_init, [], []⟩
def d_Store_make : He.DefD := ⟨("Store", some "make"), "make", "Core.make", defArgs s_Core_make, defBody s_Core_make, defScope s_Core_make, [], []⟩
def d_Store_take : He.DefD := ⟨("Store", some "take"), "take", "Core.take", defArgs s_Core_take, defBody s_Core_take, defScope s_Core_take, [], []⟩
def d_Store_give : He.DefD := ⟨("Store", some "give"), "give", "Core.give", defArgs s_Core_give, defBody s_Core_give, defScope s_Core_give, [], []⟩
def d_Store_newest : He.DefD := ⟨("Store", some "newest"), "newest", "Core.newest", defArgs s_Core_newest, defBody s_Core_newest, defScope s_Core_newest, [], []⟩
def d_Store_change : He.DefD := ⟨("Store", some "change"), "change", "Core.change", defArgs s_Core_change, defBody s_Core_change, defScope s_Core_change, [], []⟩
def d_Store_begin_page : He.DefD := ⟨("Store", some "begin_page"), "begin_page", "Core.begin_page", defArgs s_Core_begin_page, defBody s_Core_begin_page, defScope s_Core_begin_page, [], []⟩
def d_Store_end_page : He.DefD := ⟨("Store", some "end_page"), "end_page", "Core.end_page", defArgs s_Core_end_page, defBody s_Core_end_page, defScope s_Core_end_page, [], []⟩
def d_Store_checkpoint : He.DefD := ⟨("Store", some "checkpoint"), "checkpoint", "Core.checkpoint", defArgs s_Core_checkpoint, defBody s_Core_checkpoint, defScope s_Core_checkpoint, [], []⟩
def d_Store_put_row : He.DefD := ⟨("Store", some "put_row"), "put_row", "Core.put_row", defArgs s_Core_put_row, defBody s_Core_put_row, defScope s_Core_put_row, [], []⟩
def d_Store_note : He.DefD := ⟨("Store", some "note"), "note", "Store.note", defArgs s_Store_note, defBody s_Store_note, defScope s_Store_note, [], []⟩
def d_Store_step : He.DefD := ⟨("Store", some "step"), "step", "Store.step", defArgs s_Store_step, defBody s_Store_step, defScope s_Store_step, [], []⟩
def fn : List He.DefD := [d_is_integer, d_is_between, d_check_part, d_check_settings, d_root_level, d_rows_alike, d_are_alike, d_first_parting, d_law_digits, d_law_parts, d_law_settings, d_law_changed, d_law_begun_alike, d_law_first_unlike, d_law_long_parts, d_law_long_right, d_law, d_Settings_init, d_Packing_init, d_Packing_length, d_Packing_rows_from, d_Packing_start, d_Book_init, d_Store_init, d_Store_make, d_Store_take, d_Store_give, d_Store_newest, d_Store_change, d_Store_begin_page, d_Store_end_page, d_Store_checkpoint, d_Store_put_row, d_Store_note, d_Store_step]
def fa : List He.Fa := [.glo "is_integer", .glo "is_between", .glo "check_part", .glo "check_settings", .glo "root_level", .glo "rows_alike", .glo "are_alike", .glo "first_parting", .glo "_law_digits", .glo "_law_parts", .glo "_law_settings", .glo "_law_changed", .glo "_law_begun_alike", .glo "_law_first_unlike", .glo "_law_long_parts", .glo "_law_long_right", .glo "law", .glo "Settings", .glo "Packing", .glo "Store", .glo "Book", .cls "Settings", .cls "Packing", .cls "Store", .mkr "Settings", .mkr "Packing", .mkr "Store", .noat "Settings" "lengths", .noat "Settings" "size", .noat "Settings" "fanout", .noat "Settings" "records", .noat "Settings" "every", .noat "Settings" "keep", .noat "Packing" "row_lengths", .noat "Packing" "room", .noat "Packing" "starts", .noat "Packing" "first", .noat "Packing" "pages", .noat "Packing" "rows", .noat "Store" "settings", .noat "Store" "packing", .noat "Store" "done", .noat "Store" "oldest", .noat "Store" "heap", .noat "Store" "node_places", .noat "Store" "top_level", .noat "Store" "log", .noat "Store" "waiting", .noat "Store" "changed", .noat "Store" "free_row", .noat "Store" "taken_count", .noat "Store" "events", .meth "Packing" "length", .meth "Packing" "rows_from", .meth "Packing" "start", .meth "Store" "make", .meth "Store" "take", .meth "Store" "give", .meth "Store" "newest", .meth "Store" "change", .meth "Store" "begin_page", .meth "Store" "end_page", .meth "Store" "checkpoint", .meth "Store" "put_row", .meth "Store" "note", .meth "Store" "step", .free "isinstance", .free "int", .free "bool", .free "list", .free "len", .free "max", .free "min", .free "tuple", .free "range", .free "sorted", .free "divmod", .free "all", .free "dict", .int "MOST_LENGTHS" 6, .int "MOST_SIZE" 64, .int "MOST_FANOUT" 8, .int "MOST_RECORDS" 16, .int "MOST_EVERY" 40, .int "MOST_KEEP" 100]
def ex0 (K : PySem.W.Frag) : Bool := (PySem.W.readsIn K (He.ga K "Book") (.type "type") && (He.eqO (PySem.W.specialIn K (.ref (He.ga K "Book")) "__getattribute__") (some (some (.builtin "type.__getattribute__"))) && (match PySem.W.findCls K (.ref (He.ga K "Book")) (.type "type") "__init__" with | some (.val (.ref z)) => decide (z = He.ma K (He.ga K "Book") "__init__") | _ => false)))
def ex1 (K : PySem.W.Frag) : Bool := (He.eqO (PySem.W.findIn K (.ref (He.ga K "Settings")) "__class__") (some (some (.builtin "object.__class__"))) && (He.eqO (PySem.W.specialIn K (.builtin "object.__class__") "__get__") (some (some (.builtin "getset_descriptor.__get__"))) && (decide (PySem.W.takesIn K (.builtin "object.__class__") = some true) && (decide (PySem.W.mroIn K (He.ga K "Settings") (.type "object") = some true) && (decide (PySem.W.kitOne K (.ref (He.ga K "Settings")) (.ref (He.ga K "Settings")) = some true))))))
def ex (K : PySem.W.Frag) : Bool := ex0 K && (ex1 K && (true))
theorem ex_Book_init {K : PySem.W.Frag} (x : ex K = true) : PySem.W.readsIn K (He.ga K "Book") (.type "type") = true ∧ PySem.W.specialIn K (.ref (He.ga K "Book")) "__getattribute__" = some (some (.builtin "type.__getattribute__")) ∧ PySem.W.findCls K (.ref (He.ga K "Book")) (.type "type") "__init__" = some (.val (.ref (He.ma K (He.ga K "Book") "__init__"))) := by
  have y := (He.ba x).1
  obtain ⟨y1, y⟩ := He.ba y
  obtain ⟨y2, y3⟩ := He.ba y
  refine ⟨y1, He.eqO_ok y2, ?_⟩
  split at y3
  · rename_i z e
    rw [e, of_decide_eq_true y3]
  · cases y3
theorem isi_Settings {K : PySem.W.Frag} (x : ex K = true) : (∀ (H : Hp) (a dx : Addr) (fs : List (Str × V)), H a = some (.ins (He.ga K "Settings") dx fs) → Cls K (He.ga K "Settings") → TyOf K H (.ref a) (.ref (He.ga K "Settings"))) ∧ PySem.W.kitOne K (.ref (He.ga K "Settings")) (.ref (He.ga K "Settings")) = some true := by
  obtain ⟨_, x⟩ := He.ba x
  have y := (He.ba x).1
  obtain ⟨y1, y⟩ := He.ba y
  obtain ⟨y2, y⟩ := He.ba y
  obtain ⟨y3, y⟩ := He.ba y
  obtain ⟨y4, y5⟩ := He.ba y
  exact ⟨fun H a dx fs e cl => .ins e cl (He.eqO_ok y1) (He.eqO_ok y2) (of_decide_eq_true y3) (of_decide_eq_true y4), of_decide_eq_true y5⟩
structure Tx (K : PySem.W.Frag) (mg : Str → Option Value) : Prop where
  g_is_integer : mg "is_integer" = some (.ref (He.ga K "is_integer"))
  g_is_between : mg "is_between" = some (.ref (He.ga K "is_between"))
  g_check_part : mg "check_part" = some (.ref (He.ga K "check_part"))
  g_check_settings : mg "check_settings" = some (.ref (He.ga K "check_settings"))
  g_root_level : mg "root_level" = some (.ref (He.ga K "root_level"))
  g_rows_alike : mg "rows_alike" = some (.ref (He.ga K "rows_alike"))
  g_are_alike : mg "are_alike" = some (.ref (He.ga K "are_alike"))
  g_first_parting : mg "first_parting" = some (.ref (He.ga K "first_parting"))
  g_law_digits : mg "_law_digits" = some (.ref (He.ga K "_law_digits"))
  g_law_parts : mg "_law_parts" = some (.ref (He.ga K "_law_parts"))
  g_law_settings : mg "_law_settings" = some (.ref (He.ga K "_law_settings"))
  g_law_changed : mg "_law_changed" = some (.ref (He.ga K "_law_changed"))
  g_law_begun_alike : mg "_law_begun_alike" = some (.ref (He.ga K "_law_begun_alike"))
  g_law_first_unlike : mg "_law_first_unlike" = some (.ref (He.ga K "_law_first_unlike"))
  g_law_long_parts : mg "_law_long_parts" = some (.ref (He.ga K "_law_long_parts"))
  g_law_long_right : mg "_law_long_right" = some (.ref (He.ga K "_law_long_right"))
  g_law : mg "law" = some (.ref (He.ga K "law"))
  g_Settings : mg "Settings" = some (.ref (He.ga K "Settings"))
  g_Packing : mg "Packing" = some (.ref (He.ga K "Packing"))
  g_Store : mg "Store" = some (.ref (He.ga K "Store"))
  g_Book : mg "Book" = some (.ref (He.ga K "Book"))
  c_Settings : Cls K (He.ga K "Settings")
  c_Packing : Cls K (He.ga K "Packing")
  c_Store : Cls K (He.ga K "Store")
  k_Settings : Mk K (He.ga K "Settings") (He.ma K (He.ga K "Settings") "__init__")
  k_Packing : Mk K (He.ga K "Packing") (He.ma K (He.ga K "Packing") "__init__")
  k_Store : Mk K (He.ga K "Store") (He.ma K (He.ga K "Store") "__init__")
  n_Settings_lengths : NoAttr K (He.ga K "Settings") "lengths"
  n_Settings_size : NoAttr K (He.ga K "Settings") "size"
  n_Settings_fanout : NoAttr K (He.ga K "Settings") "fanout"
  n_Settings_records : NoAttr K (He.ga K "Settings") "records"
  n_Settings_every : NoAttr K (He.ga K "Settings") "every"
  n_Settings_keep : NoAttr K (He.ga K "Settings") "keep"
  n_Packing_row_lengths : NoAttr K (He.ga K "Packing") "row_lengths"
  n_Packing_room : NoAttr K (He.ga K "Packing") "room"
  n_Packing_starts : NoAttr K (He.ga K "Packing") "starts"
  n_Packing_first : NoAttr K (He.ga K "Packing") "first"
  n_Packing_pages : NoAttr K (He.ga K "Packing") "pages"
  n_Packing_rows : NoAttr K (He.ga K "Packing") "rows"
  n_Store_settings : NoAttr K (He.ga K "Store") "settings"
  n_Store_packing : NoAttr K (He.ga K "Store") "packing"
  n_Store_done : NoAttr K (He.ga K "Store") "done"
  n_Store_oldest : NoAttr K (He.ga K "Store") "oldest"
  n_Store_heap : NoAttr K (He.ga K "Store") "heap"
  n_Store_node_places : NoAttr K (He.ga K "Store") "node_places"
  n_Store_top_level : NoAttr K (He.ga K "Store") "top_level"
  n_Store_log : NoAttr K (He.ga K "Store") "log"
  n_Store_waiting : NoAttr K (He.ga K "Store") "waiting"
  n_Store_changed : NoAttr K (He.ga K "Store") "changed"
  n_Store_free_row : NoAttr K (He.ga K "Store") "free_row"
  n_Store_taken_count : NoAttr K (He.ga K "Store") "taken_count"
  n_Store_events : NoAttr K (He.ga K "Store") "events"
  m_Packing_length : Meth K (He.ga K "Packing") "length" (He.ma K (He.ga K "Packing") "length")
  m_Packing_rows_from : Meth K (He.ga K "Packing") "rows_from" (He.ma K (He.ga K "Packing") "rows_from")
  m_Packing_start : Meth K (He.ga K "Packing") "start" (He.ma K (He.ga K "Packing") "start")
  m_Store_make : Meth K (He.ga K "Store") "make" (He.ma K (He.ga K "Store") "make")
  m_Store_take : Meth K (He.ga K "Store") "take" (He.ma K (He.ga K "Store") "take")
  m_Store_give : Meth K (He.ga K "Store") "give" (He.ma K (He.ga K "Store") "give")
  m_Store_newest : Meth K (He.ga K "Store") "newest" (He.ma K (He.ga K "Store") "newest")
  m_Store_change : Meth K (He.ga K "Store") "change" (He.ma K (He.ga K "Store") "change")
  m_Store_begin_page : Meth K (He.ga K "Store") "begin_page" (He.ma K (He.ga K "Store") "begin_page")
  m_Store_end_page : Meth K (He.ga K "Store") "end_page" (He.ma K (He.ga K "Store") "end_page")
  m_Store_checkpoint : Meth K (He.ga K "Store") "checkpoint" (He.ma K (He.ga K "Store") "checkpoint")
  m_Store_put_row : Meth K (He.ga K "Store") "put_row" (He.ma K (He.ga K "Store") "put_row")
  m_Store_note : Meth K (He.ga K "Store") "note" (He.ma K (He.ga K "Store") "note")
  m_Store_step : Meth K (He.ga K "Store") "step" (He.ma K (He.ga K "Store") "step")
  f_isinstance : mg "isinstance" = none
  f_int : mg "int" = none
  f_bool : mg "bool" = none
  f_list : mg "list" = none
  f_len : mg "len" = none
  f_max : mg "max" = none
  f_min : mg "min" = none
  f_tuple : mg "tuple" = none
  f_range : mg "range" = none
  f_sorted : mg "sorted" = none
  f_divmod : mg "divmod" = none
  f_all : mg "all" = none
  f_dict : mg "dict" = none
  i_MOST_LENGTHS : ∃ t, mg "MOST_LENGTHS" = some (.int 6 t)
  i_MOST_SIZE : ∃ t, mg "MOST_SIZE" = some (.int 64 t)
  i_MOST_FANOUT : ∃ t, mg "MOST_FANOUT" = some (.int 8 t)
  i_MOST_RECORDS : ∃ t, mg "MOST_RECORDS" = some (.int 16 t)
  i_MOST_EVERY : ∃ t, mg "MOST_EVERY" = some (.int 40 t)
  i_MOST_KEEP : ∃ t, mg "MOST_KEEP" = some (.int 100 t)
  F_is_integer : ∃ fd, FnP K "is_integer" "is_integer" s_is_integer (He.ga K "is_integer") fd
  F_is_between : ∃ fd, FnP K "is_between" "is_between" s_is_between (He.ga K "is_between") fd
  F_check_part : ∃ fd, FnP K "check_part" "check_part" s_check_part (He.ga K "check_part") fd
  F_check_settings : ∃ fd, FnP K "check_settings" "check_settings" s_check_settings (He.ga K "check_settings") fd
  F_root_level : ∃ fd, FnP K "root_level" "root_level" s_root_level (He.ga K "root_level") fd
  F_rows_alike : ∃ fd, FnP K "rows_alike" "rows_alike" s_rows_alike (He.ga K "rows_alike") fd
  F_are_alike : ∃ fd, FnP K "are_alike" "are_alike" s_are_alike (He.ga K "are_alike") fd
  F_first_parting : ∃ fd, FnP K "first_parting" "first_parting" s_first_parting (He.ga K "first_parting") fd
  F_law_digits : ∃ fd, FnP K "_law_digits" "_law_digits" s_law_digits (He.ga K "_law_digits") fd
  F_law_parts : ∃ fd, FnP K "_law_parts" "_law_parts" s_law_parts (He.ga K "_law_parts") fd
  F_law_settings : ∃ fd, FnP K "_law_settings" "_law_settings" s_law_settings (He.ga K "_law_settings") fd
  F_law_changed : ∃ fd, FnP K "_law_changed" "_law_changed" s_law_changed (He.ga K "_law_changed") fd
  F_law_begun_alike : ∃ fd, FnP K "_law_begun_alike" "_law_begun_alike" s_law_begun_alike (He.ga K "_law_begun_alike") fd
  F_law_first_unlike : ∃ fd, FnP K "_law_first_unlike" "_law_first_unlike" s_law_first_unlike (He.ga K "_law_first_unlike") fd
  F_law_long_parts : ∃ fd, FnP K "_law_long_parts" "_law_long_parts" s_law_long_parts (He.ga K "_law_long_parts") fd
  F_law_long_right : ∃ fd, FnP K "_law_long_right" "_law_long_right" s_law_long_right (He.ga K "_law_long_right") fd
  F_law : ∃ fd, FnP K "law" "law" s_law (He.ga K "law") fd
  F_Settings_init : ∃ fd, FnP K "__init__" "Settings.__init__" s_Settings_init (He.ma K (He.ga K "Settings") "__init__") fd
  F_Packing_init : ∃ fd, FnP K "__init__" "Packing.__init__" s_Packing_init (He.ma K (He.ga K "Packing") "__init__") fd
  F_Packing_length : ∃ fd, FnP K "length" "Packing.length" s_Packing_length (He.ma K (He.ga K "Packing") "length") fd
  F_Packing_rows_from : ∃ fd, FnP K "rows_from" "Packing.rows_from" s_Packing_rows_from (He.ma K (He.ga K "Packing") "rows_from") fd
  F_Packing_start : ∃ fd, FnP K "start" "Packing.start" s_Packing_start (He.ma K (He.ga K "Packing") "start") fd
  F_Book_init : ∃ fd, FnP K "__init__" "Core.__init__" s_Core_init (He.ma K (He.ga K "Book") "__init__") fd
  F_Store_init : ∃ fd, FnP K "__init__" "Store.__init__" s_Store_init (He.ma K (He.ga K "Store") "__init__") fd
  F_Store_make : ∃ fd, FnP K "make" "Core.make" s_Core_make (He.ma K (He.ga K "Store") "make") fd
  F_Store_take : ∃ fd, FnP K "take" "Core.take" s_Core_take (He.ma K (He.ga K "Store") "take") fd
  F_Store_give : ∃ fd, FnP K "give" "Core.give" s_Core_give (He.ma K (He.ga K "Store") "give") fd
  F_Store_newest : ∃ fd, FnP K "newest" "Core.newest" s_Core_newest (He.ma K (He.ga K "Store") "newest") fd
  F_Store_change : ∃ fd, FnP K "change" "Core.change" s_Core_change (He.ma K (He.ga K "Store") "change") fd
  F_Store_begin_page : ∃ fd, FnP K "begin_page" "Core.begin_page" s_Core_begin_page (He.ma K (He.ga K "Store") "begin_page") fd
  F_Store_end_page : ∃ fd, FnP K "end_page" "Core.end_page" s_Core_end_page (He.ma K (He.ga K "Store") "end_page") fd
  F_Store_checkpoint : ∃ fd, FnP K "checkpoint" "Core.checkpoint" s_Core_checkpoint (He.ma K (He.ga K "Store") "checkpoint") fd
  F_Store_put_row : ∃ fd, FnP K "put_row" "Core.put_row" s_Core_put_row (He.ma K (He.ga K "Store") "put_row") fd
  F_Store_note : ∃ fd, FnP K "note" "Store.note" s_Store_note (He.ma K (He.ga K "Store") "note") fd
  F_Store_step : ∃ fd, FnP K "step" "Store.step" s_Store_step (He.ma K (He.ga K "Store") "step") fd
  ex : ex K = true
theorem tx_of {K : PySem.W.Frag} {mg : Str → Option Value} {h : Heap} (X : K.In h) (G : h.Ns mainGlobals mg) (c : He.SaysD fa fn K) (x : ex K = true) : Tx K mg := by
  constructor
  · exact He.glo_ok X G (c.fact 0 rfl)
  · exact He.glo_ok X G (c.fact 1 rfl)
  · exact He.glo_ok X G (c.fact 2 rfl)
  · exact He.glo_ok X G (c.fact 3 rfl)
  · exact He.glo_ok X G (c.fact 4 rfl)
  · exact He.glo_ok X G (c.fact 5 rfl)
  · exact He.glo_ok X G (c.fact 6 rfl)
  · exact He.glo_ok X G (c.fact 7 rfl)
  · exact He.glo_ok X G (c.fact 8 rfl)
  · exact He.glo_ok X G (c.fact 9 rfl)
  · exact He.glo_ok X G (c.fact 10 rfl)
  · exact He.glo_ok X G (c.fact 11 rfl)
  · exact He.glo_ok X G (c.fact 12 rfl)
  · exact He.glo_ok X G (c.fact 13 rfl)
  · exact He.glo_ok X G (c.fact 14 rfl)
  · exact He.glo_ok X G (c.fact 15 rfl)
  · exact He.glo_ok X G (c.fact 16 rfl)
  · exact He.glo_ok X G (c.fact 17 rfl)
  · exact He.glo_ok X G (c.fact 18 rfl)
  · exact He.glo_ok X G (c.fact 19 rfl)
  · exact He.glo_ok X G (c.fact 20 rfl)
  · exact He.cls_ok (c.fact 21 rfl)
  · exact He.cls_ok (c.fact 22 rfl)
  · exact He.cls_ok (c.fact 23 rfl)
  · exact He.mkr_ok (c.fact 24 rfl)
  · exact He.mkr_ok (c.fact 25 rfl)
  · exact He.mkr_ok (c.fact 26 rfl)
  · exact He.noat_ok (c.fact 27 rfl)
  · exact He.noat_ok (c.fact 28 rfl)
  · exact He.noat_ok (c.fact 29 rfl)
  · exact He.noat_ok (c.fact 30 rfl)
  · exact He.noat_ok (c.fact 31 rfl)
  · exact He.noat_ok (c.fact 32 rfl)
  · exact He.noat_ok (c.fact 33 rfl)
  · exact He.noat_ok (c.fact 34 rfl)
  · exact He.noat_ok (c.fact 35 rfl)
  · exact He.noat_ok (c.fact 36 rfl)
  · exact He.noat_ok (c.fact 37 rfl)
  · exact He.noat_ok (c.fact 38 rfl)
  · exact He.noat_ok (c.fact 39 rfl)
  · exact He.noat_ok (c.fact 40 rfl)
  · exact He.noat_ok (c.fact 41 rfl)
  · exact He.noat_ok (c.fact 42 rfl)
  · exact He.noat_ok (c.fact 43 rfl)
  · exact He.noat_ok (c.fact 44 rfl)
  · exact He.noat_ok (c.fact 45 rfl)
  · exact He.noat_ok (c.fact 46 rfl)
  · exact He.noat_ok (c.fact 47 rfl)
  · exact He.noat_ok (c.fact 48 rfl)
  · exact He.noat_ok (c.fact 49 rfl)
  · exact He.noat_ok (c.fact 50 rfl)
  · exact He.noat_ok (c.fact 51 rfl)
  · exact He.meth_ok (c.fact 52 rfl)
  · exact He.meth_ok (c.fact 53 rfl)
  · exact He.meth_ok (c.fact 54 rfl)
  · exact He.meth_ok (c.fact 55 rfl)
  · exact He.meth_ok (c.fact 56 rfl)
  · exact He.meth_ok (c.fact 57 rfl)
  · exact He.meth_ok (c.fact 58 rfl)
  · exact He.meth_ok (c.fact 59 rfl)
  · exact He.meth_ok (c.fact 60 rfl)
  · exact He.meth_ok (c.fact 61 rfl)
  · exact He.meth_ok (c.fact 62 rfl)
  · exact He.meth_ok (c.fact 63 rfl)
  · exact He.meth_ok (c.fact 64 rfl)
  · exact He.meth_ok (c.fact 65 rfl)
  · exact He.free_ok X G (c.fact 66 rfl)
  · exact He.free_ok X G (c.fact 67 rfl)
  · exact He.free_ok X G (c.fact 68 rfl)
  · exact He.free_ok X G (c.fact 69 rfl)
  · exact He.free_ok X G (c.fact 70 rfl)
  · exact He.free_ok X G (c.fact 71 rfl)
  · exact He.free_ok X G (c.fact 72 rfl)
  · exact He.free_ok X G (c.fact 73 rfl)
  · exact He.free_ok X G (c.fact 74 rfl)
  · exact He.free_ok X G (c.fact 75 rfl)
  · exact He.free_ok X G (c.fact 76 rfl)
  · exact He.free_ok X G (c.fact 77 rfl)
  · exact He.free_ok X G (c.fact 78 rfl)
  · exact He.int_ok X G (c.fact 79 rfl)
  · exact He.int_ok X G (c.fact 80 rfl)
  · exact He.int_ok X G (c.fact 81 rfl)
  · exact He.int_ok X G (c.fact 82 rfl)
  · exact He.int_ok X G (c.fact 83 rfl)
  · exact He.int_ok X G (c.fact 84 rfl)
  · exact c.def_ 0 rfl
  · exact c.def_ 1 rfl
  · exact c.def_ 2 rfl
  · exact c.def_ 3 rfl
  · exact c.def_ 4 rfl
  · exact c.def_ 5 rfl
  · exact c.def_ 6 rfl
  · exact c.def_ 7 rfl
  · exact c.def_ 8 rfl
  · exact c.def_ 9 rfl
  · exact c.def_ 10 rfl
  · exact c.def_ 11 rfl
  · exact c.def_ 12 rfl
  · exact c.def_ 13 rfl
  · exact c.def_ 14 rfl
  · exact c.def_ 15 rfl
  · exact c.def_ 16 rfl
  · exact c.def_ 17 rfl
  · exact c.def_ 18 rfl
  · exact c.def_ 19 rfl
  · exact c.def_ 20 rfl
  · exact c.def_ 21 rfl
  · exact c.def_ 22 rfl
  · exact c.def_ 23 rfl
  · exact c.def_ 24 rfl
  · exact c.def_ 25 rfl
  · exact c.def_ 26 rfl
  · exact c.def_ 27 rfl
  · exact c.def_ 28 rfl
  · exact c.def_ 29 rfl
  · exact c.def_ 30 rfl
  · exact c.def_ 31 rfl
  · exact c.def_ 32 rfl
  · exact c.def_ 33 rfl
  · exact c.def_ 34 rfl
  · exact x
abbrev R : PySem.W.OpenRow := PySem.W.OpenLaw.row PySem.Challenge.rw_keeprows_k90_where_stores_part
abbrev AlY : Type := He.AlD × Bool
def atY (g : Addr → Option Obj) : List Addr := cStatics :: He.asD g 6
def obY (g : Addr → Option Obj) : AlY := (He.obsD fa fn (He.frG g (atY g)), ex (He.frG g (atY g)))
def hk : PySem.W.Hook where
  α := AlY
  obs := fun st => obY st.heap.get?
  val := fun _ => (He.valD fn, true)
  says := fun _ hp => ∃ K : PySem.W.Frag, K.In hp ∧ He.SaysD fa fn K ∧ ex K = true
  of := fun _ _ q => ⟨_, He.frG_in, congrArg Prod.fst q, congrArg Prod.snd q⟩
  keeps := fun _ _ _ ⟨K, hK, c, x⟩ k => ⟨K, PySem.W.Frag.In.keeps hK k, c, x⟩
def ob (s : PySem.W.SharedT) : AlY := obY (HandSHeadRun.getT s)
theorem ob_eq (s : PySem.W.SharedT) : ob s = hk.obs s.abs := congrArg obY (funext fun z => HandSHeadRun.getT_eq s z)
def loose0 : List PySem.Str := ["_wall", "StoreError", "InvalidSettings", "InvalidPage", "InvalidNumber", "MOST_ROW", "MOST_LENGTHS", "MOST_SIZE", "MOST_FANOUT", "MOST_RECORDS", "MOST_EVERY", "MOST_KEEP", "is_integer", "is_between", "check_part", "Settings", "check_settings", "check_moment", "Packing", "root_level", "Core", "Book", "Store", "rows_alike", "are_alike", "first_parting", "_law_digits", "_law_parts", "_law_settings", "_law_changed"]
def loose1 : List PySem.Str := ["_law_begun_alike", "_law_first_unlike", "_law_long_parts", "_law_long_right"]
def loose : List PySem.Str := loose0 ++ loose1
theorem run (w : World) : HandSHeadRun.RunEq R (PySem.W.view R.prog [41]) hk ob 20000 loose w := by
  intro os
  kernel_rfl
end K90


namespace L2
open PySem PySem.Spec PyProof.Rows
/-! ### keywords, all of them written, no defaults -/
section
variable {K : PySem.W.Frag} {x qual : Str} {params : Arguments} {body : List Stmt} {scope : Scope} {f : Addr} {fd : FuncData} {ps : List Str}
theorem FunD.kbindsN (F : FunD K x qual params body scope [] [] f fd) (n : Nat) (ks : List Str)
    (h : ∀ (kV doc pm : Value) (an : Option Addr) (cdv ct : Value) (us ws : List Value), us.length = n → ws.length = ks.length →
      bindArgs (PySem.W.fnOf x qual params body scope .none kV doc pm an cdv ct) ⟨us, ks.zip ws⟩ = pure (ps.zip (us ++ ws))) : KBn K fd ps n ks (fun us ws => us ++ ws) (fun vs zs => vs ++ zs) := by
  obtain ⟨oc, od, dV, kV, doc, pm, an, cdv, ct, osl, rfl, lk, hcd, hD, hK⟩ := F.ex
  rcases hD with ⟨_, rfl⟩ | ⟨e, _⟩
  · exact ⟨fun s us ws X l1 l2 => BindsTo.of_looks fun M => by
      rw [h kV doc pm an cdv ct us ws l1 l2]
      exact .of_pure rfl, fun r1 r2 => r1.append r2⟩
  · exact absurd rfl e
end
/-! ### two dicts of ints and of one and the same things -/
section
variable {X : Cx}
def eqVV (u v : V) : Prop := (∃ a, u = .ref a ∧ v = .ref a) ∨ ∃ i j, u = .int i ∧ v = .int j
theorem eqVV_at {A : Around} {s : Shared} {u v : V} {x y : Value} (h : eqVV u v) (rx : RelV u x) (ry : RelV v y) : SeqAt.EqAt A s x y (decide (v = u)) := by
  rcases h with ⟨a, rfl, rfl⟩ | ⟨i, j, rfl, rfl⟩
  · cases (show x = Value.ref a from rx)
    cases (show y = Value.ref a from ry)
    rw [decide_eq_true rfl]
    exact SeqAt.EqAt.same _
  · obtain ⟨t, rfl⟩ := (show ∃ t, x = Value.int i t from rx)
    obtain ⟨t', rfl⟩ := (show ∃ t, y = Value.int j t from ry)
    have q := SeqAt.EqAt.int_int (A := A) (s := s) i t j t'
    have e : decide (V.int j = V.int i) = (i == j) := by
      by_cases h : i = j
      · simp [h]
      · have : ¬ j = i := fun z => h z.symm
        simp [h, this]
    rw [e]
    exact q
theorem hits_mix {κ : Type} [DecidableEq κ] {A : Around} {s : Shared} {kvs : List (κ × V)} {vb : List (κ × Value)} (rb : KV kvs vb) {ks : List (κ × V)} {va : List (κ × Value)} (ra : KV ks va) :
    (∀ p ∈ ks, ∃ q, valV kvs p.1 = some q ∧ eqVV p.2 q) → PySem.W.KeqHits A s vb va (ks.all fun p => decide (valV kvs p.1 = some p.2)) := by
  unfold KV at ra
  induction ra with
  | nil => intro _; exact .nil
  | @cons p q ps qs h t ih =>
    intro hp
    obtain ⟨h1, h2⟩ := h
    obtain ⟨z, e, f⟩ := hp p List.mem_cons_self
    have rr : RelO (some z) (valueAt vb p.1) := by rw [← e]; exact rb.val p.1
    obtain ⟨y, hy, ry⟩ := rr.some_of
    obtain ⟨k, v⟩ := q
    have h1' : p.1 = k := h1
    rw [h1'] at hy
    have e2 : ((p :: ps).all fun p => decide (valV kvs p.1 = some p.2)) = (decide (z = p.2) && ps.all fun p => decide (valV kvs p.1 = some p.2)) := by
      rw [List.all_cons, e]
      simp
    rw [e2]
    exact .hit hy (eqVV_at f h2 ry) (ih fun p' hm => hp p' (List.mem_cons_of_mem _ hm))
def rEqDM : R2 := fun x y H Q => ∃ (a b : Addr) (ks ls : List (Key × V)), x = .ref a ∧ y = .ref b ∧ H a = some (.dK ks) ∧ H b = some (.dK ls) ∧ ks.length = ls.length ∧ (∀ p ∈ ks, ∃ q, valV ls p.1 = some q ∧ eqVV p.2 q) ∧ Q (.bl (ks.all fun p => decide (valV ls p.1 = some p.2))) H
theorem op_eqDM (hu : X.A.units < cLine) : OpR X (compareOp .Eq) rEqDM := by
  intro pins s σ H x y v u Q I rx ry h
  obtain ⟨a, b, ks, ls, rfl, rfl, ea, eb, hlen, hp, q⟩ := h
  obtain rfl : v = Value.ref a := rx
  obtain rfl : u = Value.ref b := ry
  obtain ⟨_, ya, va, ra, da⟩ := (show ObjOk X.prog X.w H s.heap a (.dK ks) from I.hok a _ ea)
  obtain ⟨_, yb, vb, rb, db⟩ := (show ObjOk X.prog X.w H s.heap b (.dK ls) from I.hok b _ eb)
  have hl : va.length = vb.length := by rw [← ra.length, ← rb.length]; exact hlen
  exact PySem.W.keq_eq (knd := mixKind X.prog X.w) (r := ks.all fun p => decide (valV ls p.1 = some p.2)) ya yb da db hu (fun _ => hits_mix rb ra hp) (fin_bl I q (by simp [hl]))
end
end L2
namespace KR
open PySem PySem.Spec PyProof.Rows L2
/-! ### more steps -/
def rInt1 : List V → Hp → VK → Prop := fun xs H Q => (∃ i, xs = [.int i] ∧ Q (.int i) H) ∨ ∃ k, xs = [.bl k] ∧ Q (.int (if k then 1 else 0)) H
def rDictOf : List V → Hp → VK → Prop := fun xs H Q => ∃ (a : Addr) (kvs : List (Key × V)), xs = [.ref a] ∧ Rd H a (.dK kvs) ∧ ∀ p, H p = none → Q (.ref p) (upd H p (.dK kvs))
section
variable {X : Cx}
theorem call_int1Q : CallR X (.type "int") rInt1 := call_int1
theorem call_dictQ : CallR X (.type "dict") rDictOf := call_dictD
end
section
variable {σ : L2.St} {H : Hp} {D : Ends} {Q : VK} {K : PySem.W.Frag}
theorem q_int1 {i : Int} (k : Q (.int i) H) : rInt1 [.int i] H Q := .inl ⟨i, rfl, k⟩
theorem q_int1b {b : Bool} (k : Q (.int (if b then 1 else 0)) H) : rInt1 [.bl b] H Q := .inr ⟨b, rfl, k⟩
theorem q_dict {a : Addr} {kvs : List (Key × V)} (h : H a = some (.dK kvs)) (k : newK (.dK kvs) H Q) : rDictOf [.ref a] H Q := ⟨a, kvs, rfl, .inl h, newK.to k⟩
theorem i_sl {r : V → Option Int → Option Int → Hp → VK → Prop} {te : TE} {tl th : TO} (k : te σ H fun x H1 => tl σ H1 fun l H2 => th σ H2 fun u H3 => r x l u H3 Q) : tSl r te tl th σ H Q := k
theorem i_npart {R : Option Int → Hp → Prop} (k : R none H) : tNoPart σ H R := k
theorem i_part {t : TE} {R : Option Int → Hp → Prop} (k : t σ H fun x H1 => ∃ i, x = .int i ∧ R (some i) H1) : tPart t σ H R := k
theorem i_pint {a : Int} {R : Int → Prop} (k : R a) : ∃ i, V.int a = .int i ∧ R i := ⟨a, rfl, k⟩
theorem q_slL {a : Addr} {xs : List V} {lo hi : Option Int} (h : H a = some (.lst xs)) (k : newK (.lst (cutV xs lo hi)) H Q) : rSlL K (.ref a) lo hi H Q := ⟨a, xs, rfl, SqL.of h, newK.to k⟩
theorem q_catL {l b : Addr} {xs zs : List V} (h1 : H l = some (.lst xs)) (h2 : H b = some (.lst zs)) (z : xs.length + zs.length ≤ sizeLine) (k : newK (.lst (xs ++ zs)) H Q) : rCat (.ref l) (.ref b) H Q := ⟨l, b, xs, zs, rfl, rfl, h1, h2, z, newK.to k⟩
theorem q_rep2 {l : Addr} {xs : List V} (h : H l = some (.lst xs)) (z : xs.length * 2 ≤ sizeLine) (k : newK (.lst (xs ++ xs)) H Q) : rRep (.ref l) (.int 2) H Q :=
  ⟨l, 2, xs, rfl, rfl, h, by decide, by decide, z, fun p hp => by
    have e : (List.replicate (2 : Int).toNat xs).flatten = xs ++ xs := by
      show (List.replicate 2 xs).flatten = _
      simp [List.replicate]
    rw [e]
    exact newK.to k p hp⟩
theorem i_pcons {tk tv : TE} {r : List (TE × TE)} {R : List (V × V) → Hp → Prop} (k : tk σ H fun x H1 => tv σ H1 fun y H2 => tPairs r σ H2 fun ps H3 => R ((x, y) :: ps) H3) : tPairs ((tk, tv) :: r) σ H R := k
theorem i_pnil {R : List (V × V) → Hp → Prop} (k : R [] H) : tPairs [] σ H R := k
theorem i_disp {trs : List (TE × TE)} (k : ∀ p H', H p = none → H' p = some (.dK []) → Same H H' → tPairs trs σ H' fun ps H2 => H2 p = some (.dK []) ∧ ∃ kvs : List (Key × V), ps = kvs.map (fun kv => (kV kv.1, kv.2)) ∧ kvs.length ≤ 15 ∧ Q (.ref p) (upd H2 p (.dK (mergeK [] kvs)))) : tDisp trs σ H Q :=
  fun p hp => k p _ hp upd_same (Same.upd hp)
theorem i_updK {p : Addr} {o : HO} (k : ∀ H3, H3 p = some o → (∀ b, b ≠ p → H3 b = H b) → Q (.ref p) H3) : Q (.ref p) (upd H p o) := k _ upd_same fun _ hb => upd_ne hb
def makeKK (C : Addr) (n m : Nat) (sp : Sp) (gV : List V → List V → List V) (E : XK) (vs zs : List V) (H2 : Hp) (Q : VK) : Prop := vs.length = n ∧ zs.length = m ∧ ∀ x dx, H2 x = none → H2 dx = none → dx ≠ x →
  sp (gV (.ref x :: vs) zs) (upd (upd H2 dx (.own x)) x (.ins C dx [])) (fun v H3 => v = .non ∧ Q (.ref x) H3) E
theorem i_makeKw {C : Addr} {n m : Nat} {sp : Sp} {gV : List V → List V → List V} {E : XK} {t tk : TA} (k : t σ H fun vs H1 => tk σ H1 fun zs H2 => makeKK C n m sp gV E vs zs H2 Q) : tMakeK C n m sp gV E t tk σ H Q := k
theorem i_makeKK {C : Addr} {n m : Nat} {sp : Sp} {gV : List V → List V → List V} {E : XK} {vs zs : List V} (h1 : vs.length = n) (h2 : zs.length = m) (k : ∀ x dx H', H x = none → H dx = none → H' x = some (.ins C dx []) → Same H H' → sp (gV (.ref x :: vs) zs) H' (fun v H2 => v = .non ∧ Q (.ref x) H2) E) : makeKK C n m sp gV E vs zs H Q :=
  ⟨h1, h2, fun x dx hx hd _ => k x dx _ hx hd upd_same fun b o e => by rw [upd_ne (ne_of_none e hx), upd_ne (ne_of_none e hd)]; exact e⟩
theorem i_gsub {to ti : TE} {t : TSet} {v : V} {R : L2.St → Hp → Prop} (k : to σ H fun o H1 => ti σ H1 fun i H2 => t o i v H2 fun H3 => R σ H3) : gSub to ti t v σ H R := k
theorem q_setD {d : Addr} {kvs : List (Key × V)} {ky : Key} {v : V} {R : Hp → Prop} (h : H d = some (.dK kvs)) (z : kvs.length < sizeLine) (k : ∀ H', H' d = some (.dK (putK kvs ky v)) → (∀ b, b ≠ d → H' b = H b) → R H') : rSetD (.ref d) (kV ky) v H R :=
  ⟨d, _, rfl, DPut.k h z, k _ upd_same fun _ hb => upd_ne hb⟩
theorem cut_from {xs : List V} : cutV xs (some 1) none = xs.drop 1 := by
  unfold cutV
  have e : HT.sIx xs.length 0 (some 1) = min 1 xs.length := HT.sIx_nat _ _ 1
  rw [e, HT.sIx_none]
  cases xs with
  | nil => rfl
  | cons x r => simp
theorem cut_from20 {xs : List V} (h : 20 ≤ xs.length) : cutV xs (some 20) none = xs.drop 20 := by
  unfold cutV
  have e : HT.sIx xs.length 0 (some 20) = min 20 xs.length := HT.sIx_nat _ _ 20
  rw [e, HT.sIx_none, Nat.min_eq_left h]
  exact List.take_of_length_le (by simp)
theorem cut_to {xs : List V} (n : Nat) : cutV xs none (some (n : Int)) = xs.take n := by
  unfold cutV
  rw [HT.sIx_nat, HT.sIx_none]
  simp only [List.drop_zero, Nat.sub_zero]
  by_cases h : n ≤ xs.length
  · rw [Nat.min_eq_left h]
  · rw [Nat.min_eq_right (by omega), List.take_of_length_le (Nat.le_refl _), List.take_of_length_le (by omega)]
theorem cut_at {xs : List V} (n : Nat) : cutV xs (some (n : Int)) none = xs.drop n := by
  unfold cutV
  rw [HT.sIx_nat, HT.sIx_none]
  by_cases h : n ≤ xs.length
  · rw [Nat.min_eq_left h]
    exact List.take_of_length_le (by simp)
  · rw [Nat.min_eq_right (by omega), List.drop_of_length_le (Nat.le_refl _), List.drop_of_length_le (by omega)]
    simp
theorem atI_lit {ds : List Int} {k : Int} (n : Nat) (e : k = n) (h : n < ds.length) : atI (ds.map V.int) k = some (.int (ds.getD n 0)) := by
  rw [e]
  refine atI_nat ?_
  rw [List.getElem?_map, List.getElem?_eq_getElem h, List.getD_eq_getElem?_getD, List.getElem?_eq_getElem h]
  rfl
end
end KR


namespace KR
/-! ### the program's work as plain functions -/
inductive Role where
  | heap (m : Int) | node (l n : Int) | log (p : Int)
  deriving DecidableEq
inductive Ev where
  | take (pg : Int) (r : Role) | record (pg n : Int) | put (pg n : Int) | give (pg : Int) (r : Role) | write (pg : Int) | free (pg : Int)
  deriving DecidableEq
/-- the least level at which one node covers both -/
def rl (f : Int) : Nat → Int → Int → Int → Int
  | 0, _, _, l => l
  | k + 1, o, n, l => if o = n then l else rl f k (o / f) (n / f) (l + 1)
def rootLevel (o n f : Int) : Int := rl f n.toNat (o / f) (n / f) 0
/-! settings -/
structure Sett where
  lengths : List Int
  size : Int
  fanout : Int
  recs : Int
  every : Int
  keep : Int
  deriving DecidableEq
structure Sett.Ok (S : Sett) : Prop where
  l1 : 1 ≤ S.lengths.length
  l6 : S.lengths.length ≤ 6
  len : ∀ x ∈ S.lengths, 1 ≤ x ∧ x ≤ S.size
  size : S.size ≤ 64
  f2 : 2 ≤ S.fanout
  f8 : S.fanout ≤ 8
  r1 : 1 ≤ S.recs
  r16 : S.recs ≤ 16
  e1 : 1 ≤ S.every
  e40 : S.every ≤ 40
  k1 : 1 ≤ S.keep
  k100 : S.keep ≤ 100
/-! packing -/
def Sett.lenAt (S : Sett) (r : Int) : Int := S.lengths.getD (r % (S.lengths.length : Int)).toNat 0
def Sett.fill (S : Sett) (row : Int) : Nat → Int → Int → Int
  | 0, found, _ => found
  | k + 1, found, units => if units + S.lenAt (row + found) ≤ S.size then S.fill row k (found + 1) (units + S.lenAt (row + found)) else found
def Sett.rowsFrom (S : Sett) (row : Int) : Int := S.fill row 65 0 0
/-- the first row of heap page k -/
def Sett.at (S : Sett) : Nat → Int
  | 0 => 0
  | k + 1 => S.at k + S.rowsFrom (S.at k)
def Sett.res (S : Sett) (k : Nat) : Int := S.at k % (S.lengths.length : Int)
/-! the store -/
structure Cf where
  start : Int → Int
  f : Int
  keep : Int
  every : Int
  recs : Int
structure Sto where
  done : Int
  oldest : Int
  top : Int
  taken : Int
  heap : List Int
  log : List Int
  waiting : List Int
  free : List Int
  nodes : List ((Int × Int) × Int)
  changed : List Int
  ev : List Ev
def Sto.init : Sto := ⟨0, 0, -1, 0, [], [], [], [], [], [], []⟩
def Sto.note (s : Sto) (e : Ev) : Sto := { s with ev := s.ev ++ [e] }
def Sto.takeP (s : Sto) : Int := if s.free = [] then s.taken else s.free.getLastD 0
def Sto.take (s : Sto) (r : Role) : Sto :=
  if s.free = [] then { s with taken := s.taken + 1, ev := s.ev ++ [.take s.taken r] } else { s with free := s.free.dropLast, ev := s.ev ++ [.take (s.free.getLastD 0) r] }
def Sto.give (s : Sto) (pg : Int) (r : Role) : Sto := { s with changed := s.changed.filter (fun x => decide (x ≠ pg)), waiting := s.waiting ++ [pg], ev := s.ev ++ [.give pg r] }
def Sto.newest (s : Sto) : Int := s.oldest + s.heap.length - 1
def putI (l : List Int) (x : Int) : List Int := if x ∈ l then l else l ++ [x]
def putN (l : List ((Int × Int) × Int)) (q : Int × Int) (x : Int) : List ((Int × Int) × Int) :=
  if (l.any fun e => decide (e.1 = q)) = true then l.map (fun e => if e.1 = q then (e.1, x) else e) else l ++ [(q, x)]
def lookN (l : List ((Int × Int) × Int)) (q : Int × Int) : Option Int := (l.find? fun e => decide (e.1 = q)).map (·.2)
def Sto.change (s : Sto) (l n : Int) : Sto := match lookN s.nodes (l, n) with
  | some pg => { s with changed := putI s.changed pg }
  | none => s
def wantedAt (s : Sto) (num w : Int) (i : Int) : List Int := if i > s.top ∧ s.oldest / w ≠ num / w then [s.oldest / w, num / w] else [num / w]
def begunAt (s : Sto) (num f : Int) (i : Nat) : List (Int × Int) :=
  ((wantedAt s num (f ^ (i + 1)) i).filter fun n => (lookN s.nodes ((i : Int), n)).isNone).map fun n => ((i : Int), n)
def begun (s : Sto) (num f : Int) (n : Nat) : List (Int × Int) := (List.range n).flatMap (begunAt s num f)
def Sto.addNode (s : Sto) (q : Int × Int) : Sto :=
  let s1 := s.take (.node q.1 q.2)
  ({ s1 with nodes := putN s1.nodes q s.takeP }).change q.1 q.2
def Sto.changes (s : Sto) (f : Int) (qs : List (Int × Int)) : Sto := qs.foldl (fun t q => t.change (q.1 + 1) (q.2 / f)) s
def Sto.bp2 (s : Sto) : Sto := { s.take (.heap (s.newest + 1)) with heap := (s.take (.heap (s.newest + 1))).heap ++ [s.takeP], changed := putI (s.take (.heap (s.newest + 1))).changed s.takeP }
def Sto.bpLvl (s : Sto) (f : Int) : Int := rootLevel s.oldest (s.newest + 1) f
def Sto.bpList (s : Sto) (f : Int) : List (Int × Int) := begun s.bp2 (s.newest + 1) f (s.bpLvl f + 1).toNat
def Sto.beginPage (s : Sto) (f : Int) : Sto :=
  (((s.bpList f).foldl Sto.addNode { s.bp2 with top := s.bpLvl f }).change 0 ((s.newest + 1) / f)).changes f (s.bpList f)
def endedAt (num old f : Int) (i : Nat) : List (Int × Int) := if num / f ^ (i + 1) ≠ old / f ^ (i + 1) then [((i : Int), num / f ^ (i + 1))] else []
def ended1 (s : Sto) (lvl : Int) : List (Int × Int) := (s.nodes.map (·.1)).filter fun q => decide (lvl < q.1)
def ended2 (num old f : Int) (n : Nat) : List (Int × Int) := (List.range n).flatMap (endedAt num old f)
def leP (a b : Int × Int) : Bool := decide (a.1 < b.1 ∨ (a.1 = b.1 ∧ a.2 ≤ b.2))
def isortP (l : List (Int × Int)) : List (Int × Int) := l.mergeSort leP
def isortI (l : List Int) : List Int := l.mergeSort fun a b => decide (a ≤ b)
def Sto.delNode (s : Sto) (q : Int × Int) : Sto :=
  ({ s with nodes := s.nodes.filter fun e => decide (e.1 ≠ q) }).give ((lookN s.nodes q).getD 0) (.node q.1 q.2)
def Sto.endLevel (s : Sto) (f : Int) : Int := if s.heap ≠ [] then rootLevel s.oldest s.newest f else -1
def Sto.ep2 (s : Sto) : Sto := { ({ s with heap := s.heap.tail }).give (s.heap.headD 0) (.heap s.oldest) with oldest := s.oldest + 1 }
def Sto.epLvl (s : Sto) (f : Int) : Int := s.ep2.endLevel f
def Sto.epList (s : Sto) (f : Int) : List (Int × Int) := ended1 s.ep2 (s.epLvl f) ++ ended2 s.oldest (s.oldest + 1) f (s.epLvl f + 1).toNat
def Sto.endPage (s : Sto) (f : Int) : Sto :=
  (((isortP (s.epList f)).foldl Sto.delNode { s.ep2 with top := s.epLvl f }).change 0 (s.oldest / f)).changes f (s.epList f)
def Sto.checkpoint (s : Sto) : Sto :=
  let fr := s.waiting ++ s.log
  { s with ev := s.ev ++ (isortI s.changed).map .write ++ fr.map .free, changed := [], free := s.free ++ fr, waiting := [], log := [] }
def Sto.logRow (s : Sto) (c : Cf) : Sto :=
  if s.done % c.every % c.recs = 0 then
    let s1 := s.take (.log (s.done % c.every / c.recs))
    { s1 with log := s1.log ++ [s.takeP] }
  else s
def Sto.putRow (s : Sto) (c : Cf) : Sto :=
  let row := s.done
  let s1 := s.logRow c
  let s2 := s1.note (.record (s1.log.getLastD 0) row)
  let s3 := if row = c.start (s2.newest + 1) then s2.beginPage c.f else s2
  let s4 := { s3 with changed := putI s3.changed (s3.heap.getLastD 0) }
  let s5 := s4.note (.put (s4.heap.getLastD 0) row)
  let s6 := if row - c.keep + 1 = c.start (s5.oldest + 1) then s5.endPage c.f else s5
  let s7 := { s6 with done := s6.done + 1 }
  if s7.done % c.every = 0 then s7.checkpoint else s7
def Sto.step (s : Sto) (c : Cf) : Sto := ({ s with ev := [] }).putRow c
def Sett.cf (S : Sett) : Cf := ⟨fun p => S.at p.toNat, S.fanout, S.keep, S.every, S.recs⟩
end KR


namespace KR
/-! ### packing: the plain law -/
theorem pigeon : ∀ (n : Nat) (l : List Int), l.Nodup → (∀ x ∈ l, 0 ≤ x ∧ x < n) → l.length ≤ n
  | 0, l, _, h => by
    cases l with
    | nil => exact Nat.le_refl _
    | cons x r => have := h x List.mem_cons_self; omega
  | n + 1, l, nd, h => by
    have ih := pigeon n (l.erase (n : Int)) (nd.erase _) fun x hx => by
      have h1 := (nd.mem_erase_iff).mp hx
      have h2 := h x h1.2
      have h3 := h1.1
      omega
    have h4 : l.length ≤ (l.erase (n : Int)).length + 1 := by
      rw [List.length_erase]
      split <;> omega
    omega
namespace Sett
variable {S : Sett}
theorem Ok.len_pos (h : S.Ok) : (0 : Int) < (S.lengths.length : Int) := by have := h.l1; omega
theorem Ok.ix (h : S.Ok) (r : Int) : (r % (S.lengths.length : Int)).toNat < S.lengths.length := by
  have h1 := Int.emod_lt_of_pos r h.len_pos
  have h2 := Int.emod_nonneg r (Int.ne_of_gt h.len_pos)
  omega
theorem Ok.lenAt (h : S.Ok) (r : Int) : 1 ≤ S.lenAt r ∧ S.lenAt r ≤ S.size := by
  unfold Sett.lenAt
  have h1 := h.ix r
  rw [List.getD_eq_getElem?_getD, List.getElem?_eq_getElem h1]
  exact h.len _ (List.getElem_mem _)
theorem lenAt_congr {a b : Int} (h : a % (S.lengths.length : Int) = b % (S.lengths.length : Int)) (x : Int) : S.lenAt (a + x) = S.lenAt (b + x) := by
  unfold Sett.lenAt
  rw [Int.add_emod, h, ← Int.add_emod]
theorem fill_congr {a b : Int} (h : ∀ x, S.lenAt (a + x) = S.lenAt (b + x)) : ∀ (k : Nat) (f u : Int), S.fill a k f u = S.fill b k f u
  | 0, _, _ => rfl
  | k + 1, f, u => by
    unfold Sett.fill
    rw [h f, fill_congr h k]
theorem fill_ge (h : S.Ok) (a : Int) : ∀ (k : Nat) (f u : Int), f ≤ S.fill a k f u
  | 0, _, _ => Int.le_refl _
  | k + 1, f, u => by
    unfold Sett.fill
    split
    · have := fill_ge h a k (f + 1) (u + S.lenAt (a + f)); omega
    · exact Int.le_refl _
theorem fill_le (h : S.Ok) (a : Int) : ∀ (k : Nat) (f u : Int), f ≤ u → u ≤ S.size → S.fill a k f u ≤ S.size
  | 0, f, u, h1, h2 => by unfold Sett.fill; omega
  | k + 1, f, u, h1, h2 => by
    unfold Sett.fill
    have := (h.lenAt (a + f)).1
    split
    · exact fill_le h a k _ _ (by omega) (by assumption)
    · omega
theorem Ok.size1 (h : S.Ok) : 1 ≤ S.size := by have := h.lenAt 0; omega
theorem rowsFrom_pos (h : S.Ok) (a : Int) : 1 ≤ S.rowsFrom a := by
  unfold rowsFrom
  rw [show (65 : Nat) = 64 + 1 from rfl, fill]
  have h1 := (h.lenAt (a + 0)).2
  rw [if_pos (by omega)]
  exact fill_ge h a 64 1 _
theorem rowsFrom_le (h : S.Ok) (a : Int) : S.rowsFrom a ≤ S.size := fill_le h a 65 0 0 (Int.le_refl _) (by have := h.size1; omega)
theorem at_lt (h : S.Ok) (k : Nat) : S.at k < S.at (k + 1) := by
  have := rowsFrom_pos h (S.at k)
  show S.at k < S.at k + S.rowsFrom (S.at k)
  omega
theorem at_mono (h : S.Ok) {j k : Nat} (hjk : j < k) : S.at j < S.at k := by
  induction k with
  | zero => omega
  | succ k ih =>
    have h1 := at_lt h k
    by_cases e : j = k
    · rw [e]; exact h1
    · have := ih (by omega); omega
theorem at_le (h : S.Ok) {j k : Nat} (hjk : j ≤ k) : S.at j ≤ S.at k := by
  by_cases e : j = k
  · rw [e]; exact Int.le_refl _
  · exact Int.le_of_lt (at_mono h (by omega))
theorem at_bound (h : S.Ok) (k : Nat) : (k : Int) ≤ S.at k ∧ S.at k ≤ S.size * k := by
  induction k with
  | zero => simp [Sett.at]
  | succ k ih =>
    have h1 := rowsFrom_pos h (S.at k)
    have h2 := rowsFrom_le h (S.at k)
    have h3 : S.at (k + 1) = S.at k + S.rowsFrom (S.at k) := rfl
    rw [h3]
    have h4 : S.size * ((k + 1 : Nat) : Int) = S.size * k + S.size := by
      rw [Int.natCast_succ, Int.mul_add, Int.mul_one]
    omega
theorem res_nonneg (h : S.Ok) (k : Nat) : 0 ≤ S.res k ∧ S.res k < (S.lengths.length : Int) := ⟨Int.emod_nonneg _ (Int.ne_of_gt h.len_pos), Int.emod_lt_of_pos _ h.len_pos⟩
theorem step_congr {j k : Nat} (e : S.res j = S.res k) : S.rowsFrom (S.at j) = S.rowsFrom (S.at k) := fill_congr (lenAt_congr e) 65 0 0
theorem at_shift {i n : Nat} (e : S.res n = S.res i) : ∀ d : Nat, S.at (n + d) = S.at (i + d) + (S.at n - S.at i) ∧ S.res (n + d) = S.res (i + d)
  | 0 => ⟨by simp only [Nat.add_zero]; omega, e⟩
  | d + 1 => by
    obtain ⟨h1, h2⟩ := at_shift e d
    have h3 := step_congr h2
    have e1 : S.at (n + (d + 1)) = S.at (n + d) + S.rowsFrom (S.at (n + d)) := rfl
    have e2 : S.at (i + (d + 1)) = S.at (i + d) + S.rowsFrom (S.at (i + d)) := rfl
    refine ⟨by omega, ?_⟩
    unfold res at h2 ⊢
    rw [e1, e2, h3, Int.add_emod, h2, ← Int.add_emod]
theorem at_period {i n : Nat} (hin : i < n) (e : S.res n = S.res i) : ∀ d : Nat, S.at (i + d) = S.at (i + d % (n - i)) + (d / (n - i) : Nat) * (S.at n - S.at i) := fun d => by
  induction d using Nat.strongRecOn with
  | ind d ih =>
    by_cases h : d < n - i
    · rw [Nat.mod_eq_of_lt h, Nat.div_eq_of_lt h]
      simp
    · obtain ⟨c, rfl⟩ : ∃ c, d = c + (n - i) := ⟨d - (n - i), by omega⟩
      have h1 := ih c (by omega)
      have h2 := (at_shift e c).1
      have e1 : i + (c + (n - i)) = n + c := by omega
      rw [e1, h2, h1, Nat.add_mod_right, Nat.add_div_right _ (by omega : 0 < n - i)]
      rw [Int.natCast_succ, Int.add_mul, Int.one_mul]
      omega
/-- two packings that begin alike long enough begin alike for ever -/
theorem at_alike {S' : Sett} {i n i' n' : Nat} (hin : i < n) (e : S.res n = S.res i) (hin' : i' < n') (e' : S'.res n' = S'.res i')
    (h : ∀ k : Nat, k ≤ max i i' + (n - i) + (n' - i') → S.at k = S'.at k) : ∀ k, S.at k = S'.at k := by
  have per : ∀ k, i ≤ k → S.rowsFrom (S.at (k + (n - i))) = S.rowsFrom (S.at k) := fun k hk => by
    obtain ⟨d, rfl⟩ : ∃ d, k = i + d := ⟨k - i, by omega⟩
    have := (at_shift e d).2
    have e1 : i + d + (n - i) = n + d := by omega
    rw [e1]
    exact step_congr this
  have per' : ∀ k, i' ≤ k → S'.rowsFrom (S'.at (k + (n' - i'))) = S'.rowsFrom (S'.at k) := fun k hk => by
    obtain ⟨d, rfl⟩ : ∃ d, k = i' + d := ⟨k - i', by omega⟩
    have := (at_shift e' d).2
    have e1 : i' + d + (n' - i') = n' + d := by omega
    rw [e1]
    exact step_congr this
  have near : ∀ k, k < max i i' + (n - i) + (n' - i') → S.rowsFrom (S.at k) = S'.rowsFrom (S'.at k) := fun k hk => by
    have h1 := h k (by omega)
    have h2 := h (k + 1) (by omega)
    have e1 : S.at (k + 1) = S.at k + S.rowsFrom (S.at k) := rfl
    have e2 : S'.at (k + 1) = S'.at k + S'.rowsFrom (S'.at k) := rfl
    omega
  have all : ∀ k, S.rowsFrom (S.at k) = S'.rowsFrom (S'.at k) := fun k => by
    induction k using Nat.strongRecOn with
    | ind k ih =>
      by_cases hk : k < max i i' + (n - i) + (n' - i')
      · exact near k hk
      · obtain ⟨c, rfl⟩ : ∃ c, k = c + (n' - i') + (n - i) := ⟨k - (n' - i') - (n - i), by omega⟩
        rw [per _ (by omega), ih (c + (n' - i')) (by omega), per' _ (by omega), ← ih c (by omega)]
        rw [show c + (n' - i') + (n - i) = (c + (n - i)) + (n' - i') by omega, per' _ (by omega), ← ih (c + (n - i)) (by omega), per _ (by omega)]
  intro k
  induction k with
  | zero => rfl
  | succ k ih =>
    show S.at k + S.rowsFrom (S.at k) = S'.at k + S'.rowsFrom (S'.at k)
    have := all k
    omega
end Sett
end KR


namespace KR
/-! ### sizes, levels -/
structure Sto.Sz (n : Nat) (M : Sto) : Prop where
  heap : M.heap.length ≤ n
  log : M.log.length ≤ n
  waiting : M.waiting.length ≤ n
  free : M.free.length ≤ n
  nodes : M.nodes.length ≤ n
  changed : M.changed.length ≤ n
  ev : M.ev.length ≤ n
theorem putI_len (l : List Int) (x : Int) : (putI l x).length ≤ l.length + 1 := by
  unfold putI
  split
  · omega
  · simp
theorem putN_len (l : List ((Int × Int) × Int)) (q : Int × Int) (x : Int) : (putN l q x).length ≤ l.length + 1 := by
  unfold putN
  split
  · simp
  · simp
namespace Sto
variable {n : Nat} {M : Sto}
theorem Sz.mono {m : Nat} (h : Sz n M) (hm : n ≤ m) : Sz m M := ⟨by have := h.heap; omega, by have := h.log; omega, by have := h.waiting; omega, by have := h.free; omega, by have := h.nodes; omega, by have := h.changed; omega, by have := h.ev; omega⟩
theorem Sz.note (h : Sz n M) (e : Ev) : Sz (n + 1) (M.note e) := by
  obtain ⟨a, b, c, d, e1, f, g⟩ := h
  refine ⟨?_, ?_, ?_, ?_, ?_, ?_, ?_⟩ <;> simp only [Sto.note, List.length_append, List.length_singleton] <;> omega
theorem Sz.take (h : Sz n M) (r : Role) : Sz (n + 1) (M.take r) := by
  obtain ⟨a, b, c, d, e1, f, g⟩ := h
  unfold Sto.take
  split <;> refine ⟨?_, ?_, ?_, ?_, ?_, ?_, ?_⟩ <;> simp only [List.length_append, List.length_singleton, List.length_dropLast] <;> omega
theorem Sz.give (h : Sz n M) (p : Int) (r : Role) : Sz (n + 1) (M.give p r) := by
  obtain ⟨a, b, c, d, e1, f, g⟩ := h
  have h1 := List.length_filter_le (fun x => decide (x ≠ p)) M.changed
  refine ⟨?_, ?_, ?_, ?_, ?_, ?_, ?_⟩ <;> simp only [Sto.give, List.length_append, List.length_singleton] <;> omega
theorem Sz.change (h : Sz n M) (l k : Int) : Sz (n + 1) (M.change l k) := by
  obtain ⟨a, b, c, d, e1, f, g⟩ := h
  unfold Sto.change
  split
  · rename_i pg _
    have h1 := putI_len M.changed pg
    refine ⟨?_, ?_, ?_, ?_, ?_, ?_, ?_⟩ <;> simp only <;> omega
  · refine ⟨?_, ?_, ?_, ?_, ?_, ?_, ?_⟩ <;> omega
theorem Sz.addNode (h : Sz n M) (q : Int × Int) : Sz (n + 1) (M.addNode q) := by
  have e : ∀ (s : Sto) (l k : Int), (s.change l k).heap = s.heap ∧ (s.change l k).log = s.log ∧ (s.change l k).waiting = s.waiting ∧ (s.change l k).free = s.free ∧ (s.change l k).nodes = s.nodes ∧ (s.change l k).ev = s.ev ∧ (s.change l k).changed.length ≤ s.changed.length + 1 := fun s l k => by
    unfold Sto.change
    split
    · exact ⟨rfl, rfl, rfl, rfl, rfl, rfl, putI_len _ _⟩
    · exact ⟨rfl, rfl, rfl, rfl, rfl, rfl, Nat.le_succ _⟩
  obtain ⟨e1, e2, e3, e4, e5, e6, e7⟩ := e ({ M.take (.node q.1 q.2) with nodes := putN (M.take (.node q.1 q.2)).nodes q M.takeP }) q.1 q.2
  obtain ⟨a, b, c, d, e0, f, g⟩ := h
  have h1 := putN_len M.nodes q M.takeP
  unfold Sto.addNode
  refine ⟨?_, ?_, ?_, ?_, ?_, ?_, ?_⟩
  · rw [e1]; unfold Sto.take; split <;> simp only <;> omega
  · rw [e2]; unfold Sto.take; split <;> simp only <;> omega
  · rw [e3]; unfold Sto.take; split <;> simp only <;> omega
  · rw [e4]; unfold Sto.take; split <;> simp only [List.length_dropLast] <;> omega
  · rw [e5]; unfold Sto.take; split <;> simp only <;> omega
  · refine Nat.le_trans e7 ?_
    unfold Sto.take; split <;> simp only <;> omega
  · rw [e6]; unfold Sto.take; split <;> simp only [List.length_append, List.length_singleton] <;> omega
theorem Sz.delNode (h : Sz n M) (q : Int × Int) : Sz (n + 1) (M.delNode q) := by
  unfold Sto.delNode
  refine Sz.give (M := { M with nodes := M.nodes.filter fun e => decide (e.1 ≠ q) }) ⟨h.heap, h.log, h.waiting, h.free, ?_, h.changed, h.ev⟩ _ _
  exact Nat.le_trans (List.length_filter_le _ _) h.nodes
theorem Sz.adds : ∀ (l : List (Int × Int)) {n : Nat} {M : Sto}, Sz n M → Sz (n + l.length) (l.foldl Sto.addNode M)
  | [], _, _, h => h
  | q :: r, n, M, h => by
    have := Sz.adds r (h.addNode q)
    rw [List.foldl_cons, List.length_cons]
    exact this.mono (by omega)
theorem Sz.dels : ∀ (l : List (Int × Int)) {n : Nat} {M : Sto}, Sz n M → Sz (n + l.length) (l.foldl Sto.delNode M)
  | [], _, _, h => h
  | q :: r, n, M, h => by
    have := Sz.dels r (h.delNode q)
    rw [List.foldl_cons, List.length_cons]
    exact this.mono (by omega)
theorem Sz.changes (f : Int) : ∀ (l : List (Int × Int)) {n : Nat} {M : Sto}, Sz n M → Sz (n + l.length) (M.changes f l)
  | [], _, _, h => h
  | q :: r, n, M, h => by
    have := Sz.changes f r (h.change (q.1 + 1) (q.2 / f))
    unfold Sto.changes at this ⊢
    rw [List.foldl_cons, List.length_cons]
    exact this.mono (by omega)
theorem Sz.checkpoint (h : Sz n M) : Sz (4 * n) M.checkpoint := by
  obtain ⟨a, b, c, d, e1, f, g⟩ := h
  have hs : (isortI M.changed).length = M.changed.length := by unfold isortI; exact List.length_mergeSort _
  refine ⟨?_, ?_, ?_, ?_, ?_, ?_, ?_⟩ <;> simp only [Sto.checkpoint, List.length_append, List.length_map, List.length_nil, hs] <;> omega
end Sto
/-- how many levels up two pages meet -/
theorem rl_spec {f : Int} (hf : 2 ≤ f) : ∀ (k : Nat) (o n l : Int), 0 ≤ o → o ≤ n → n.toNat ≤ k → ∃ d : Nat, rl f k o n l = l + d ∧ o / f ^ d = n / f ^ d ∧ (d = 0 ∨ f ^ (d - 1) ≤ n)
  | 0, o, n, l, h0, h1, hk => by
    have e : o = n := by omega
    exact ⟨0, by simp [rl], by rw [e], .inl rfl⟩
  | k + 1, o, n, l, h0, h1, hk => by
    by_cases e : o = n
    · exact ⟨0, by simp [rl, e], by rw [e], .inl rfl⟩
    · have hn : 1 ≤ n := by omega
      have h2 : n / f < n := Int.ediv_lt_self_of_pos_of_ne_one (by omega) (by omega)
      have h3 : 0 ≤ n / f := Int.ediv_nonneg (by omega) (by omega)
      obtain ⟨d, e1, e2, e3⟩ := rl_spec hf k (o / f) (n / f) (l + 1) (Int.ediv_nonneg h0 (by omega)) (Int.ediv_le_ediv (by omega) h1) (by omega)
      refine ⟨d + 1, ?_, ?_, .inr ?_⟩
      · rw [rl, if_neg e, e1]
        omega
      · rw [Int.pow_succ, Int.mul_comm, ← Int.ediv_ediv_of_nonneg (by omega), ← Int.ediv_ediv_of_nonneg (by omega)]
        exact e2
      · rw [Nat.add_sub_cancel]
        rcases e3 with rfl | e3
        · simpa using hn
        · cases d with
          | zero => simpa using hn
          | succ d =>
            rw [Nat.add_sub_cancel] at e3
            have h4 : f ^ (d + 1) = f * f ^ d := by rw [Int.pow_succ, Int.mul_comm]
            have h5 : f * f ^ d ≤ f * (n / f) := Int.mul_le_mul_of_nonneg_left e3 (by omega)
            have h6 := Int.mul_ediv_self_le (x := n) (k := f) (by omega)
            omega
theorem rootLevel_spec {o n f : Int} (hf : 2 ≤ f) (h0 : 0 ≤ o) (h1 : o ≤ n) : ∃ d : Nat, rootLevel o n f = d ∧ o / f ^ (d + 1) = n / f ^ (d + 1) ∧ (d = 0 ∨ f ^ d ≤ n) := by
  have h3 : n / f ≤ n := Int.ediv_le_self _ (by omega)
  have h4 : 0 ≤ n / f := Int.ediv_nonneg (by omega) (by omega)
  obtain ⟨d, e1, e2, e3⟩ := rl_spec hf n.toNat (o / f) (n / f) 0 (Int.ediv_nonneg h0 (by omega)) (Int.ediv_le_ediv (by omega) h1) (by omega)
  refine ⟨d, by rw [rootLevel, e1]; omega, ?_, ?_⟩
  · rw [Int.pow_succ, Int.mul_comm, ← Int.ediv_ediv_of_nonneg (by omega), ← Int.ediv_ediv_of_nonneg (by omega)]
    exact e2
  · rcases e3 with rfl | e3
    · exact .inl rfl
    · cases d with
      | zero => exact .inl rfl
      | succ d =>
        right
        rw [Nat.add_sub_cancel] at e3
        have h7 : f ^ (d + 1) = f * f ^ d := by rw [Int.pow_succ, Int.mul_comm]
        have h5 : f * f ^ d ≤ f * (n / f) := Int.mul_le_mul_of_nonneg_left e3 (by omega)
        have h6 := Int.mul_ediv_self_le (x := n) (k := f) (by omega)
        omega
theorem two_pow_le {f : Int} (hf : 2 ≤ f) : ∀ d : Nat, ((2 ^ d : Nat) : Int) ≤ f ^ d
  | 0 => by simp
  | d + 1 => by
    have ih := two_pow_le hf d
    rw [Int.pow_succ, Nat.pow_succ]
    have h1 : ((2 ^ d * 2 : Nat) : Int) = (2 ^ d : Nat) * 2 := by simp
    rw [h1]
    exact Int.mul_le_mul ih hf (by omega) (by omega)
/-- a bound of the level -/
theorem rootLevel_lt {o n f : Int} {b : Nat} (hf : 2 ≤ f) (h0 : 0 ≤ o) (h1 : o ≤ n) (hn : n.toNat < 2 ^ b) : 0 ≤ rootLevel o n f ∧ rootLevel o n f ≤ b := by
  obtain ⟨d, e, _, h⟩ := rootLevel_spec hf h0 h1
  rw [e]
  refine ⟨by omega, ?_⟩
  rcases h with rfl | h
  · omega
  · have h2 := two_pow_le hf d
    have h3 : 2 ^ d < 2 ^ b := by omega
    have := (Nat.pow_lt_pow_iff_right (by decide : 1 < 2)).mp h3
    omega
theorem pow_pos' {f : Int} (hf : 2 ≤ f) (d : Nat) : 0 < f ^ d := by
  have := two_pow_le hf d
  have h2 : 0 < 2 ^ d := Nat.two_pow_pos d
  omega
theorem pow_le8 {f : Int} (h0 : 0 ≤ f) (hf : f ≤ 8) : ∀ d : Nat, f ^ d ≤ ((2 ^ (3 * d) : Nat) : Int)
  | 0 => by simp
  | d + 1 => by
    have ih := pow_le8 h0 hf d
    rw [Int.pow_succ, show 3 * (d + 1) = 3 * d + 3 by omega, Nat.pow_add]
    have h1 : ((2 ^ (3 * d) * 2 ^ 3 : Nat) : Int) = (2 ^ (3 * d) : Nat) * 8 := by simp
    rw [h1]
    exact Int.mul_le_mul ih hf h0 (by omega)
theorem begun_len (s : Sto) (num f : Int) : ∀ n : Nat, (begun s num f n).length ≤ 2 * n
  | 0 => by simp [begun]
  | n + 1 => by
    have ih := begun_len s num f n
    unfold begun at ih ⊢
    rw [List.range_succ, List.flatMap_append, List.length_append]
    have h1 : (List.flatMap (begunAt s num f) [n]).length ≤ 2 := by
      simp only [List.flatMap_cons, List.flatMap_nil, List.append_nil]
      unfold begunAt
      rw [List.length_map]
      refine Nat.le_trans (List.length_filter_le _ _) ?_
      unfold wantedAt
      split <;> simp
    omega
theorem begun_succ (s : Sto) (num f : Int) (n : Nat) : begun s num f (n + 1) = begun s num f n ++ begunAt s num f n := by
  unfold begun
  rw [List.range_succ, List.flatMap_append]
  simp
theorem ended2_succ (num old f : Int) (n : Nat) : ended2 num old f (n + 1) = ended2 num old f n ++ endedAt num old f n := by
  unfold ended2
  rw [List.range_succ, List.flatMap_append]
  simp
theorem ended2_len (num old f : Int) : ∀ n : Nat, (ended2 num old f n).length ≤ n
  | 0 => by simp [ended2]
  | n + 1 => by
    have ih := ended2_len num old f n
    rw [ended2_succ, List.length_append]
    have : (endedAt num old f n).length ≤ 1 := by unfold endedAt; split <;> simp
    omega
end KR


namespace KR
namespace Sto
variable {n : Nat} {M : Sto} {f : Int}
theorem take_kept (M : Sto) (r : Role) : (M.take r).oldest = M.oldest ∧ (M.take r).top = M.top ∧ (M.take r).nodes = M.nodes ∧ (M.take r).heap = M.heap ∧ (M.take r).changed = M.changed ∧ (M.take r).done = M.done ∧ (M.take r).log = M.log ∧ (M.take r).waiting = M.waiting := by
  unfold Sto.take
  split <;> exact ⟨rfl, rfl, rfl, rfl, rfl, rfl, rfl, rfl⟩
theorem Sz.bp2 (h : Sz n M) : Sz (n + 1) M.bp2 := by
  obtain ⟨h1, h2, h3, h4, h5, h6, h7, h8⟩ := take_kept M (.heap (M.newest + 1))
  obtain ⟨a, b, c, d, e, f, g⟩ := h.take (.heap (M.newest + 1))
  have hh := h.heap
  have hc := h.changed
  refine ⟨?_, b, c, d, e, ?_, g⟩
  · show ((M.take (.heap (M.newest + 1))).heap ++ [M.takeP]).length ≤ n + 1
    rw [h4]; simp; omega
  · show (putI (M.take (.heap (M.newest + 1))).changed M.takeP).length ≤ n + 1
    rw [h5]
    have := putI_len M.changed M.takeP
    omega
theorem Sz.beginPage {k : Nat} (h : Sz n M) (h0 : 0 ≤ M.oldest) (hw : (M.newest + 1).toNat < 2 ^ k) (hf : 2 ≤ f) : Sz (n + 4 * k + 8) (M.beginPage f) := by
  have hnew : M.oldest ≤ M.newest + 1 := by unfold Sto.newest; omega
  have hl := rootLevel_lt (b := k) hf h0 hnew (by omega)
  have hbl : (M.bpList f).length ≤ 2 * (k + 1) := Nat.le_trans (begun_len _ _ _ _) (by have : M.bpLvl f ≤ k := hl.2; have : 0 ≤ M.bpLvl f := hl.1; omega)
  have h1 : Sz (n + 1) { M.bp2 with top := M.bpLvl f } := let z := h.bp2; ⟨z.heap, z.log, z.waiting, z.free, z.nodes, z.changed, z.ev⟩
  have h2 := Sz.changes f (M.bpList f) ((Sz.adds (M.bpList f) h1).change 0 ((M.newest + 1) / f))
  exact h2.mono (by omega)
theorem Sz.ep2 (h : Sz n M) : Sz (n + 1) M.ep2 := by
  have h1 : Sto.Sz n { M with heap := M.heap.tail } := ⟨by have := h.heap; show M.heap.tail.length ≤ n; rw [List.length_tail]; omega, h.log, h.waiting, h.free, h.nodes, h.changed, h.ev⟩
  obtain ⟨a, b, c, d, e, f, g⟩ := h1.give (M.heap.headD 0) (.heap M.oldest)
  exact ⟨a, b, c, d, e, f, g⟩
theorem epLvl_le {k : Nat} (h0 : 0 ≤ M.oldest) (hw : M.newest.toNat < 2 ^ k) (hf : 2 ≤ f) (hne : M.heap ≠ []) : M.epLvl f ≤ k := by
  unfold Sto.epLvl Sto.endLevel
  by_cases he : M.ep2.heap = []
  · rw [if_neg (by simpa using he)]; omega
  · rw [if_pos he]
    have hln : 1 ≤ M.ep2.heap.length := by
      cases e : M.ep2.heap with
      | nil => exact absurd e he
      | cons x r => simp
    have e0 : M.ep2.oldest = M.oldest + 1 := rfl
    have e1 : M.ep2.newest = M.newest := by
      unfold Sto.newest
      have e2 : M.heap.length = M.ep2.heap.length + 1 := by
        show M.heap.length = M.heap.tail.length + 1
        rw [List.length_tail]
        have : M.heap.length ≠ 0 := fun z => hne (List.length_eq_zero_iff.mp z)
        omega
      rw [e0, e2]
      omega
    have := rootLevel_lt (b := k) (o := M.ep2.oldest) (n := M.ep2.newest) hf (by omega) (by unfold Sto.newest; omega) (by omega)
    omega
theorem epList_len {k : Nat} (h : Sz n M) (h0 : 0 ≤ M.oldest) (hw : M.newest.toNat < 2 ^ k) (hf : 2 ≤ f) (hne : M.heap ≠ []) : (M.epList f).length ≤ n + k + 1 := by
  have h1 := epLvl_le h0 hw hf hne
  unfold Sto.epList
  rw [List.length_append]
  have l1 : (ended1 M.ep2 (M.epLvl f)).length ≤ M.nodes.length := by
    unfold ended1
    refine Nat.le_trans (List.length_filter_le _ _) ?_
    rw [List.length_map]
    exact Nat.le_refl _
  have l2 := ended2_len M.oldest (M.oldest + 1) f (M.epLvl f + 1).toNat
  have l3 := h.nodes
  omega
theorem Sz.endPage {k : Nat} (h : Sz n M) (h0 : 0 ≤ M.oldest) (hw : M.newest.toNat < 2 ^ k) (hf : 2 ≤ f) (hne : M.heap ≠ []) : Sz (3 * n + 2 * k + 8) (M.endPage f) := by
  have hl := epList_len h h0 hw hf hne
  have h1 : Sz (n + 1) { M.ep2 with top := M.epLvl f } := let z := h.ep2; ⟨z.heap, z.log, z.waiting, z.free, z.nodes, z.changed, z.ev⟩
  have e : (isortP (M.epList f)).length = (M.epList f).length := by unfold isortP; exact List.length_mergeSort _
  have h2 := Sz.dels (isortP (M.epList f)) h1
  rw [e] at h2
  have h3 := Sz.changes f (M.epList f) (h2.change 0 (M.oldest / f))
  exact h3.mono (by omega)
/-! a row, cut -/
def r2 (s : Sto) (c : Cf) : Sto := (s.logRow c).note (.record ((s.logRow c).log.getLastD 0) s.done)
def r3 (s : Sto) (c : Cf) : Sto := if s.done = c.start ((s.r2 c).newest + 1) then (s.r2 c).beginPage c.f else s.r2 c
def r5 (s : Sto) (c : Cf) : Sto := ({ s.r3 c with changed := putI (s.r3 c).changed ((s.r3 c).heap.getLastD 0) }).note (.put ((s.r3 c).heap.getLastD 0) s.done)
def r6 (s : Sto) (c : Cf) : Sto := if s.done - c.keep + 1 = c.start ((s.r5 c).oldest + 1) then (s.r5 c).endPage c.f else s.r5 c
def r7 (s : Sto) (c : Cf) : Sto := { s.r6 c with done := (s.r6 c).done + 1 }
theorem putRow_eq (s : Sto) (c : Cf) : s.putRow c = if (s.r7 c).done % c.every = 0 then (s.r7 c).checkpoint else s.r7 c := rfl
theorem Sz.logRow {c : Cf} (h : Sz n M) : Sz (n + 1) (M.logRow c) := by
  unfold Sto.logRow
  split
  · obtain ⟨h1, h2, h3, h4, h5, h6, h7, h8⟩ := take_kept M (.log (M.done % c.every / c.recs))
    obtain ⟨a, b, c', d, e, f, g⟩ := h.take (.log (M.done % c.every / c.recs))
    refine ⟨a, ?_, c', d, e, f, g⟩
    show ((M.take (.log (M.done % c.every / c.recs))).log ++ [M.takeP]).length ≤ n + 1
    rw [h7, List.length_append]
    have := h.log
    simp
    omega
  · exact h.mono (by omega)
theorem logRow_kept (M : Sto) (c : Cf) : (M.logRow c).oldest = M.oldest ∧ (M.logRow c).top = M.top ∧ (M.logRow c).nodes = M.nodes ∧ (M.logRow c).heap = M.heap ∧ (M.logRow c).changed = M.changed ∧ (M.logRow c).done = M.done ∧ (M.logRow c).waiting = M.waiting := by
  unfold Sto.logRow
  split
  · obtain ⟨h1, h2, h3, h4, h5, h6, h7, h8⟩ := take_kept M (.log (M.done % c.every / c.recs))
    exact ⟨h1, h2, h3, h4, h5, h6, h8⟩
  · exact ⟨rfl, rfl, rfl, rfl, rfl, rfl, rfl⟩
theorem Sz.r2 {c : Cf} (h : Sz n M) : Sz (n + 2) (M.r2 c) := h.logRow.note _
theorem r2_kept (M : Sto) (c : Cf) : (M.r2 c).oldest = M.oldest ∧ (M.r2 c).top = M.top ∧ (M.r2 c).nodes = M.nodes ∧ (M.r2 c).heap = M.heap ∧ (M.r2 c).changed = M.changed ∧ (M.r2 c).done = M.done ∧ (M.r2 c).waiting = M.waiting ∧ (M.r2 c).newest = M.newest := by
  obtain ⟨h1, h2, h3, h4, h5, h6, h7⟩ := logRow_kept M c
  refine ⟨h1, h2, h3, h4, h5, h6, h7, ?_⟩
  unfold Sto.newest Sto.r2 Sto.note
  simp only [h1, h4]
theorem change_kept (M : Sto) (l k : Int) : (M.change l k).heap = M.heap ∧ (M.change l k).log = M.log ∧ (M.change l k).waiting = M.waiting ∧ (M.change l k).free = M.free ∧ (M.change l k).nodes = M.nodes ∧ (M.change l k).ev = M.ev ∧ (M.change l k).oldest = M.oldest ∧ (M.change l k).top = M.top ∧ (M.change l k).done = M.done ∧ (M.change l k).taken = M.taken := by
  unfold Sto.change
  split <;> exact ⟨rfl, rfl, rfl, rfl, rfl, rfl, rfl, rfl, rfl, rfl⟩
theorem changes_kept (f : Int) : ∀ (l : List (Int × Int)) (M : Sto), (M.changes f l).heap = M.heap ∧ (M.changes f l).log = M.log ∧ (M.changes f l).waiting = M.waiting ∧ (M.changes f l).free = M.free ∧ (M.changes f l).nodes = M.nodes ∧ (M.changes f l).ev = M.ev ∧ (M.changes f l).oldest = M.oldest ∧ (M.changes f l).top = M.top ∧ (M.changes f l).done = M.done ∧ (M.changes f l).taken = M.taken
  | [], _ => ⟨rfl, rfl, rfl, rfl, rfl, rfl, rfl, rfl, rfl, rfl⟩
  | q :: r, M => by
    have h := changes_kept f r (M.change (q.1 + 1) (q.2 / f))
    obtain ⟨a1, a2, a3, a4, a5, a6, a7, a8, a9, a10⟩ := change_kept M (q.1 + 1) (q.2 / f)
    obtain ⟨b1, b2, b3, b4, b5, b6, b7, b8, b9, b10⟩ := h
    unfold Sto.changes at *
    rw [List.foldl_cons]
    exact ⟨b1.trans a1, b2.trans a2, b3.trans a3, b4.trans a4, b5.trans a5, b6.trans a6, b7.trans a7, b8.trans a8, b9.trans a9, b10.trans a10⟩
theorem addNode_kept (M : Sto) (q : Int × Int) : (M.addNode q).heap = M.heap ∧ (M.addNode q).log = M.log ∧ (M.addNode q).waiting = M.waiting ∧ (M.addNode q).nodes = putN M.nodes q M.takeP ∧ (M.addNode q).ev = (M.take (.node q.1 q.2)).ev ∧ (M.addNode q).oldest = M.oldest ∧ (M.addNode q).top = M.top ∧ (M.addNode q).done = M.done := by
  obtain ⟨a1, a2, a3, a4, a5, a6, a7, a8⟩ := take_kept M (.node q.1 q.2)
  obtain ⟨b1, b2, b3, b4, b5, b6, b7, b8, b9, b10⟩ := change_kept ({ M.take (.node q.1 q.2) with nodes := putN (M.take (.node q.1 q.2)).nodes q M.takeP }) q.1 q.2
  refine ⟨b1.trans a4, b2.trans a7, b3.trans a8, b5.trans ?_, b6, b7.trans a1, b8.trans a2, b9.trans a6⟩
  show putN (M.take (.node q.1 q.2)).nodes q M.takeP = _
  rw [a3]
theorem adds_kept : ∀ (l : List (Int × Int)) (M : Sto), (l.foldl Sto.addNode M).heap = M.heap ∧ (l.foldl Sto.addNode M).log = M.log ∧ (l.foldl Sto.addNode M).waiting = M.waiting ∧ (l.foldl Sto.addNode M).oldest = M.oldest ∧ (l.foldl Sto.addNode M).top = M.top ∧ (l.foldl Sto.addNode M).done = M.done
  | [], _ => ⟨rfl, rfl, rfl, rfl, rfl, rfl⟩
  | q :: r, M => by
    obtain ⟨a1, a2, a3, a4, a5, a6, a7, a8⟩ := addNode_kept M q
    obtain ⟨b1, b2, b3, b4, b5, b6⟩ := adds_kept r (M.addNode q)
    rw [List.foldl_cons]
    exact ⟨b1.trans a1, b2.trans a2, b3.trans a3, b4.trans a6, b5.trans a7, b6.trans a8⟩
theorem dels_kept : ∀ (l : List (Int × Int)) (M : Sto), (l.foldl Sto.delNode M).heap = M.heap ∧ (l.foldl Sto.delNode M).log = M.log ∧ (l.foldl Sto.delNode M).oldest = M.oldest ∧ (l.foldl Sto.delNode M).top = M.top ∧ (l.foldl Sto.delNode M).done = M.done ∧ (l.foldl Sto.delNode M).taken = M.taken ∧ (l.foldl Sto.delNode M).free = M.free
  | [], _ => ⟨rfl, rfl, rfl, rfl, rfl, rfl, rfl⟩
  | q :: r, M => by
    obtain ⟨b1, b2, b3, b4, b5, b6, b7⟩ := dels_kept r (M.delNode q)
    rw [List.foldl_cons]
    exact ⟨b1, b2, b3, b4, b5, b6, b7⟩
theorem beginPage_kept (M : Sto) (f : Int) : (M.beginPage f).heap = M.heap ++ [M.takeP] ∧ (M.beginPage f).log = M.log ∧ (M.beginPage f).waiting = M.waiting ∧ (M.beginPage f).oldest = M.oldest ∧ (M.beginPage f).top = M.bpLvl f ∧ (M.beginPage f).done = M.done := by
  obtain ⟨a1, a2, a3, a4, a5, a6, a7, a8⟩ := take_kept M (.heap (M.newest + 1))
  obtain ⟨b1, b2, b3, b4, b5, b6⟩ := adds_kept (M.bpList f) { M.bp2 with top := M.bpLvl f }
  obtain ⟨c1, c2, c3, c4, c5, c6, c7, c8, c9, c10⟩ := change_kept ((M.bpList f).foldl Sto.addNode { M.bp2 with top := M.bpLvl f }) 0 ((M.newest + 1) / f)
  obtain ⟨d1, d2, d3, d4, d5, d6, d7, d8, d9, d10⟩ := changes_kept f (M.bpList f) (((M.bpList f).foldl Sto.addNode { M.bp2 with top := M.bpLvl f }).change 0 ((M.newest + 1) / f))
  unfold Sto.beginPage
  refine ⟨?_, ?_, ?_, ?_, ?_, ?_⟩
  · rw [d1, c1, b1]
    show (M.take (.heap (M.newest + 1))).heap ++ [M.takeP] = _
    rw [a4]
  · rw [d2, c2, b2]; exact a7
  · rw [d3, c3, b3]; exact a8
  · rw [d7, c7, b4]; exact a1
  · rw [d8, c8, b5]
  · rw [d9, c9, b6]; exact a6
theorem endPage_kept (M : Sto) (f : Int) : (M.endPage f).heap = M.heap.tail ∧ (M.endPage f).log = M.log ∧ (M.endPage f).oldest = M.oldest + 1 ∧ (M.endPage f).top = M.epLvl f ∧ (M.endPage f).done = M.done ∧ (M.endPage f).taken = M.taken ∧ (M.endPage f).free = M.free := by
  obtain ⟨b1, b2, b3, b4, b5, b6, b7⟩ := dels_kept (isortP (M.epList f)) { M.ep2 with top := M.epLvl f }
  obtain ⟨c1, c2, c3, c4, c5, c6, c7, c8, c9, c10⟩ := change_kept ((isortP (M.epList f)).foldl Sto.delNode { M.ep2 with top := M.epLvl f }) 0 (M.oldest / f)
  obtain ⟨d1, d2, d3, d4, d5, d6, d7, d8, d9, d10⟩ := changes_kept f (M.epList f) (((isortP (M.epList f)).foldl Sto.delNode { M.ep2 with top := M.epLvl f }).change 0 (M.oldest / f))
  unfold Sto.endPage
  exact ⟨d1.trans (c1.trans b1), d2.trans (c2.trans b2), d7.trans (c7.trans b3), d8.trans (c8.trans b4), d9.trans (c9.trans b5), d10.trans (c10.trans b6), d4.trans (c4.trans b7)⟩
/-- a store that a row may be put into -/
structure Rdy (S : Sett) (s : Sto) : Prop where
  sz : s.Sz 600000
  done0 : 0 ≤ s.done
  old0 : 0 ≤ s.oldest
  new1 : -1 ≤ s.newest
  newB : s.newest < 2 ^ 20
  log : (s.logRow S.cf).log ≠ []
  heap : (s.r3 S.cf).heap ≠ []
  fin : s.done - S.keep + 1 = S.cf.start ((s.r5 S.cf).oldest + 1) → ((s.r5 S.cf).epList S.fanout).Nodup ∧ ∀ q ∈ (s.r5 S.cf).epList S.fanout, lookN (s.r5 S.cf).nodes q ≠ none
theorem r3_newest (M : Sto) (c : Cf) : (M.r3 c).newest = (if M.done = c.start (M.newest + 1) then M.newest + 1 else M.newest) ∧ (M.r3 c).oldest = M.oldest ∧ (M.r3 c).done = M.done := by
  obtain ⟨h1, h2, h3, h4, h5, h6, h7, h8⟩ := r2_kept M c
  unfold Sto.r3
  rw [h8]
  split
  · obtain ⟨b1, b2, b3, b4, b5, b6⟩ := beginPage_kept (M.r2 c) c.f
    refine ⟨?_, b4.trans h1, b6.trans h6⟩
    unfold Sto.newest
    rw [b4, b1, h1, h4, List.length_append]
    simp
    omega
  · exact ⟨h8, h1, h6⟩
theorem r5_kept (M : Sto) (c : Cf) : (M.r5 c).newest = (M.r3 c).newest ∧ (M.r5 c).oldest = M.oldest ∧ (M.r5 c).done = M.done ∧ (M.r5 c).heap = (M.r3 c).heap ∧ (M.r5 c).nodes = (M.r3 c).nodes ∧ (M.r5 c).log = (M.r3 c).log ∧ (M.r5 c).top = (M.r3 c).top :=
  let h := r3_newest M c
  ⟨rfl, h.2.1, h.2.2, rfl, rfl, rfl, rfl⟩
theorem Rdy.sz3 {S : Sett} {s : Sto} (hS : S.Ok) (h : Rdy S s) : (s.r3 S.cf).Sz 600100 := by
  have h2 : (s.r2 S.cf).Sz 600002 := h.sz.r2
  obtain ⟨k1, k2, k3, k4, k5, k6, k7, k8⟩ := r2_kept s S.cf
  unfold Sto.r3
  split
  · have := Sz.beginPage (f := S.cf.f) (k := 21) h2 (by rw [k1]; exact h.old0) (by rw [k8]; have := h.newB; have := h.new1; omega) hS.f2
    exact this.mono (by decide)
  · exact h2.mono (by decide)
theorem Rdy.sz5 {S : Sett} {s : Sto} (hS : S.Ok) (h : Rdy S s) : (s.r5 S.cf).Sz 600200 := by
  have h3 := h.sz3 hS
  have h4 : Sz 600101 { s.r3 S.cf with changed := putI (s.r3 S.cf).changed ((s.r3 S.cf).heap.getLastD 0) } := by
    obtain ⟨a, b, c, d, e, f, g⟩ := h3
    have := putI_len (s.r3 S.cf).changed ((s.r3 S.cf).heap.getLastD 0)
    exact ⟨by show (s.r3 S.cf).heap.length ≤ _; omega, by show (s.r3 S.cf).log.length ≤ _; omega, by show (s.r3 S.cf).waiting.length ≤ _; omega, by show (s.r3 S.cf).free.length ≤ _; omega, by show (s.r3 S.cf).nodes.length ≤ _; omega, by show (putI _ _).length ≤ _; omega, by show (s.r3 S.cf).ev.length ≤ _; omega⟩
  exact (h4.note (.put ((s.r3 S.cf).heap.getLastD 0) s.done)).mono (by decide)
theorem Rdy.new5 {S : Sett} {s : Sto} (h : Rdy S s) : (s.r5 S.cf).newest.toNat < 2 ^ 21 := by
  rw [(r5_kept s S.cf).1, (r3_newest s S.cf).1]
  have := h.newB
  split <;> omega
theorem Rdy.sz6 {S : Sett} {s : Sto} (hS : S.Ok) (h : Rdy S s) : (s.r6 S.cf).Sz 1900000 := by
  unfold Sto.r6
  obtain ⟨k1, k2, k3, k4, k5, k6, k7⟩ := r5_kept s S.cf
  split
  · have := Sz.endPage (f := S.cf.f) (k := 21) (h.sz5 hS) (by rw [k2]; exact h.old0) h.new5 hS.f2 (by rw [k4]; exact h.heap)
    exact this.mono (by decide)
  · exact (h.sz5 hS).mono (by decide)
end Sto
end KR


namespace KR
/-! ### stores run, row by row -/
def Sett.run (S : Sett) : Nat → Sto
  | 0 => Sto.init
  | k + 1 => (S.run k).step S.cf
def Sett.evs (S : Sett) (k : Nat) : List Ev := (S.run (k + 1)).ev
/-- every one of the first D rows may be put -/
def Sett.Good (S : Sett) (D : Nat) : Prop := ∀ k : Nat, k < D → ({ S.run k with ev := [] } : Sto).Rdy S
def mn (a b : Int) : Int := if b < a then b else a
structure Alike (S S' : Sett) : Prop where
  f : S.fanout = S'.fanout
  k : S.keep = S'.keep
  e : S.every = S'.every
  r : mn S.recs S.every = mn S'.recs S'.every
  a : ∀ k : Nat, S.at k = S'.at k
def PartsAt (S S' : Sett) (r : Nat) : Prop := (∀ j, j < r → S.evs j = S'.evs j) ∧ S.evs r ≠ S'.evs r
theorem parts_one {S S' : Sett} {r q : Nat} (h1 : PartsAt S S' r) (h2 : PartsAt S S' q) : r = q := by
  by_cases h : r < q
  · exact absurd (h2.1 r h) h1.2
  · by_cases h' : q < r
    · exact absurd (h1.1 q h') h2.2
    · omega
end KR


namespace KR
/-! ### nodes -/
def keysN (l : List ((Int × Int) × Int)) : List (Int × Int) := l.map (·.1)
theorem look_mem {l : List ((Int × Int) × Int)} {q : Int × Int} : lookN l q ≠ none ↔ q ∈ keysN l := by
  induction l with
  | nil => simp [lookN, keysN]
  | cons z r ih =>
    unfold lookN keysN at ih ⊢
    rw [List.find?_cons, List.map_cons, List.mem_cons]
    by_cases e : z.1 = q
    · simp [e]
    · have e2 : ¬ q = z.1 := fun h => e h.symm
      simp only [e, decide_false, e2, false_or]
      exact ih
theorem look_none {l : List ((Int × Int) × Int)} {q : Int × Int} : (lookN l q).isNone = true ↔ q ∉ keysN l := by
  rw [← look_mem]
  cases lookN l q <;> simp
theorem keys_putN (l : List ((Int × Int) × Int)) (q : Int × Int) (x : Int) : keysN (putN l q x) = if q ∈ keysN l then keysN l else keysN l ++ [q] := by
  have e : ((l.any fun e => decide (e.1 = q)) = true) ↔ q ∈ keysN l := by
    unfold keysN
    simp [List.any_eq_true]
  unfold putN
  by_cases h : q ∈ keysN l
  · rw [if_pos (e.mpr h), if_pos h]
    unfold keysN
    rw [List.map_map]
    refine List.map_congr_left fun z _ => ?_
    simp only [Function.comp]
    split <;> rfl
  · rw [if_neg (fun z => h (e.mp z)), if_neg h]
    unfold keysN
    simp
theorem mem_putN {l : List ((Int × Int) × Int)} {q p : Int × Int} {x : Int} : p ∈ keysN (putN l q x) ↔ p ∈ keysN l ∨ p = q := by
  rw [keys_putN]
  split
  · rename_i h
    refine ⟨.inl, fun z => z.elim id fun e => by rw [e]; exact h⟩
  · simp
theorem nodup_putN {l : List ((Int × Int) × Int)} {q : Int × Int} {x : Int} (h : (keysN l).Nodup) : (keysN (putN l q x)).Nodup := by
  rw [keys_putN]
  split
  · exact h
  · rename_i hq
    rw [List.nodup_append]
    refine ⟨h, List.nodup_cons.mpr ⟨by simp, List.nodup_nil⟩, fun a ha b hb e => ?_⟩
    rw [List.mem_singleton] at hb
    exact hq (by rw [← hb, ← e]; exact ha)
theorem keys_del (l : List ((Int × Int) × Int)) (q : Int × Int) : keysN (l.filter fun e => decide (e.1 ≠ q)) = (keysN l).filter fun p => decide (p ≠ q) := by
  unfold keysN
  rw [List.filter_map]
  rfl
theorem len_del {l : List ((Int × Int) × Int)} {q : Int × Int} (h : q ∈ keysN l) : (l.filter fun e => decide (e.1 ≠ q)).length + 1 ≤ l.length := by
  induction l with
  | nil => cases h
  | cons z r ih =>
    rw [List.filter_cons]
    by_cases e : z.1 = q
    · have := List.length_filter_le (fun e : (Int × Int) × Int => decide (e.1 ≠ q)) r
      simp only [e, ne_eq, not_true_eq_false, decide_false, Bool.false_eq_true, if_false, List.length_cons]
      simp only [ne_eq] at this
      omega
    · have h2 : q ∈ keysN r := by
        rcases List.mem_cons.mp h with h | h
        · exact absurd h.symm e
        · exact h
      have := ih h2
      simp only [e, ne_eq, not_false_eq_true, decide_true, if_true, List.length_cons]
      simp only [ne_eq] at this
      omega
theorem adds_keys : ∀ (l : List (Int × Int)) (M : Sto), (∀ q, q ∈ keysN (l.foldl Sto.addNode M).nodes ↔ q ∈ keysN M.nodes ∨ q ∈ l) ∧ ((keysN M.nodes).Nodup → (keysN (l.foldl Sto.addNode M).nodes).Nodup)
  | [], M => ⟨fun q => by simp, fun h => h⟩
  | p :: r, M => by
    obtain ⟨h1, h2⟩ := adds_keys r (M.addNode p)
    have e := (Sto.addNode_kept M p).2.2.2.1
    refine ⟨fun q => ?_, fun h => ?_⟩
    · rw [List.foldl_cons, h1 q, e, mem_putN, List.mem_cons]
      constructor
      · rintro ((h | h) | h)
        · exact .inl h
        · exact .inr (.inl h)
        · exact .inr (.inr h)
      · rintro (h | h | h)
        · exact .inl (.inl h)
        · exact .inl (.inr h)
        · exact .inr h
    · rw [List.foldl_cons]
      exact h2 (by rw [e]; exact nodup_putN h)
theorem dels_keys : ∀ (l : List (Int × Int)) (M : Sto), keysN (l.foldl Sto.delNode M).nodes = (keysN M.nodes).filter fun p => decide (p ∉ l)
  | [], M => (List.filter_eq_self.mpr (by simp)).symm
  | p :: r, M => by
    have h1 := dels_keys r (M.delNode p)
    have e : (M.delNode p).nodes = M.nodes.filter fun e => decide (e.1 ≠ p) := rfl
    rw [List.foldl_cons, h1, e, keys_del, List.filter_filter]
    refine List.filter_congr fun q _ => ?_
    simp only [List.mem_cons, not_or]
    by_cases h : q = p <;> by_cases h' : q ∈ r <;> simp [h, h']
/-! ### levels -/
theorem rl_ge (f : Int) : ∀ (k : Nat) (o n l : Int), l ≤ rl f k o n l
  | 0, _, _, l => Int.le_refl l
  | k + 1, o, n, l => by
    unfold rl
    split
    · exact Int.le_refl l
    · have := rl_ge f k (o / f) (n / f) (l + 1); omega
theorem rl_mono {f : Int} (hf : 0 < f) : ∀ (k : Nat) (o o' n l : Int), o ≤ o' → o' ≤ n → rl f k o' n l ≤ rl f k o n l
  | 0, _, _, _, _, _, _ => Int.le_refl _
  | k + 1, o, o', n, l, h1, h2 => by
    unfold rl
    by_cases e : o' = n
    · rw [if_pos e]
      split
      · exact Int.le_refl _
      · have := rl_ge f k (o / f) (n / f) (l + 1); omega
    · rw [if_neg e, if_neg (by omega)]
      exact rl_mono hf k _ _ _ _ (Int.ediv_le_ediv hf h1) (Int.ediv_le_ediv hf h2)
theorem rootLevel_mono {f : Int} (hf : 0 < f) {o o' n : Int} (h1 : o ≤ o') (h2 : o' ≤ n) : rootLevel o' n f ≤ rootLevel o n f := rl_mono hf _ _ _ _ _ (Int.ediv_le_ediv hf h1) (Int.ediv_le_ediv hf h2)
theorem div_up {f : Int} (hf : 2 ≤ f) {o n : Int} {d e : Nat} (hde : d ≤ e) (h : o / f ^ d = n / f ^ d) : o / f ^ e = n / f ^ e := by
  obtain ⟨c, rfl⟩ : ∃ c, e = d + c := ⟨e - d, by omega⟩
  have hp := pow_pos' hf d
  rw [Int.pow_add, ← Int.ediv_ediv_of_nonneg (by omega), h, Int.ediv_ediv_of_nonneg (by omega)]
theorem div_next {w n : Int} (hw : 0 < w) : (n + 1) / w ≤ n / w + 1 := by
  have h1 : (n + 1) / w ≤ (n + w) / w := Int.ediv_le_ediv hw (by omega)
  have h2 : (n + 1 * w) / w = n / w + 1 := Int.add_mul_ediv_right n 1 (by omega)
  rw [Int.one_mul] at h2
  omega
/-- what a store's nodes are, between rows -/
structure NOk (f : Int) (s : Sto) : Prop where
  nd : (keysN s.nodes).Nodup
  top : s.top = if s.heap = [] then -1 else rootLevel s.oldest s.newest f
  has : ∀ (l : Nat), (l : Int) ≤ s.top → ∀ n, s.oldest / f ^ (l + 1) ≤ n → n ≤ s.newest / f ^ (l + 1) → ((l : Int), n) ∈ keysN s.nodes
  up : ∀ q ∈ keysN s.nodes, 0 ≤ q.1 ∧ 0 ≤ q.2 ∧ q.2 ≤ s.newest / f ^ (q.1.toNat + 1)
theorem mem_begun {s : Sto} {num f : Int} {n : Nat} {q : Int × Int} : q ∈ begun s num f n ↔ ∃ i : Nat, i < n ∧ q.1 = i ∧ q.2 ∈ wantedAt s num (f ^ (i + 1)) i ∧ q ∉ keysN s.nodes := by
  unfold begun begunAt
  rw [List.mem_flatMap]
  constructor
  · rintro ⟨i, hi, h⟩
    obtain ⟨m, hm, rfl⟩ := List.mem_map.mp h
    obtain ⟨h1, h2⟩ := List.mem_filter.mp hm
    exact ⟨i, List.mem_range.mp hi, rfl, h1, look_none.mp h2⟩
  · rintro ⟨i, hi, h1, h2, h3⟩
    obtain ⟨a, b⟩ := q
    subst h1
    exact ⟨i, List.mem_range.mpr hi, List.mem_map.mpr ⟨b, List.mem_filter.mpr ⟨h2, look_none.mpr h3⟩, rfl⟩⟩
theorem mem_wanted {s : Sto} {num w i m : Int} (h : m ∈ wantedAt s num w i) : m = num / w ∨ m = s.oldest / w := by
  unfold wantedAt at h
  split at h
  · simp at h; omega
  · simp at h; omega
theorem wanted_num {s : Sto} {num w i : Int} : num / w ∈ wantedAt s num w i := by
  unfold wantedAt
  split <;> simp
theorem wanted_old {s : Sto} {num w i : Int} (h : i > s.top) : s.oldest / w ∈ wantedAt s num w i := by
  unfold wantedAt
  by_cases e : s.oldest / w = num / w
  · rw [if_neg (fun z => z.2 e), e]; simp
  · rw [if_pos ⟨h, e⟩]; simp
theorem begin_nodes (M : Sto) (f : Int) : (M.beginPage f).nodes = ((M.bpList f).foldl Sto.addNode { M.bp2 with top := M.bpLvl f }).nodes := by
  unfold Sto.beginPage
  rw [(Sto.changes_kept f _ _).2.2.2.2.1, (Sto.change_kept _ _ _).2.2.2.2.1]
theorem bp2_nodes (M : Sto) : M.bp2.nodes = M.nodes ∧ M.bp2.oldest = M.oldest ∧ M.bp2.top = M.top := by
  obtain ⟨h1, h2, h3, h4, h5, h6, h7, h8⟩ := Sto.take_kept M (.heap (M.newest + 1))
  exact ⟨h3, h1, h2⟩
theorem begin_newest (M : Sto) (f : Int) : (M.beginPage f).newest = M.newest + 1 := by
  obtain ⟨b1, b2, b3, b4, b5, b6⟩ := Sto.beginPage_kept M f
  unfold Sto.newest
  rw [b4, b1, List.length_append]
  simp
  omega
theorem NOk.begins {f : Int} {M : Sto} (hf : 2 ≤ f) (h : NOk f M) (h0 : 0 ≤ M.oldest) : NOk f (M.beginPage f) := by
  obtain ⟨b1, b2, b3, b4, b5, b6⟩ := Sto.beginPage_kept M f
  obtain ⟨c1, c2, c3⟩ := bp2_nodes M
  have hk := adds_keys (M.bpList f) { M.bp2 with top := M.bpLvl f }
  rw [← begin_nodes] at hk
  have hk1 : ∀ q, q ∈ keysN (M.beginPage f).nodes ↔ q ∈ keysN M.nodes ∨ q ∈ M.bpList f := fun q => by
    rw [hk.1 q]
    show q ∈ keysN M.bp2.nodes ∨ _ ↔ _
    rw [c1]
  have hnew : M.oldest ≤ M.newest + 1 := by unfold Sto.newest; omega
  refine ⟨hk.2 (by show (keysN M.bp2.nodes).Nodup; rw [c1]; exact h.nd), ?_, ?_, ?_⟩
  · rw [b5, b1, if_neg (by simp), b4, begin_newest]
    rfl
  · intro l hl n hn1 hn2
    rw [b5] at hl
    rw [b4] at hn1
    rw [begin_newest] at hn2
    rw [hk1]
    have hw := pow_pos' hf (l + 1)
    by_cases hmem : ((l : Int), n) ∈ keysN M.nodes
    · exact .inl hmem
    · right
      refine mem_begun.mpr ⟨l, by omega, rfl, ?_, by rw [c1]; exact hmem⟩
      by_cases hlt : (l : Int) ≤ M.top
      · have hn3 : ¬ n ≤ M.newest / f ^ (l + 1) := fun z => hmem (h.has l hlt n hn1 z)
        have := div_next (n := M.newest) hw
        have e : n = (M.newest + 1) / f ^ (l + 1) := by omega
        show n ∈ _
        rw [e]
        exact wanted_num
      · have e : n = M.bp2.oldest / f ^ (l + 1) ∨ n = (M.newest + 1) / f ^ (l + 1) := by
          rw [c2]
          by_cases he : M.heap = []
          · have e2 : M.newest + 1 = M.oldest := by unfold Sto.newest; rw [he]; simp
            rw [e2] at hn2 ⊢
            omega
          · have ht := h.top
            rw [if_neg he] at ht
            have hlen : M.heap.length ≠ 0 := fun z => he (List.length_eq_zero_iff.mp z)
            obtain ⟨d, e1, e2, _⟩ := rootLevel_spec hf h0 (show M.oldest ≤ M.newest by unfold Sto.newest; omega)
            have e3 := div_up hf (show d + 1 ≤ l + 1 by omega) e2
            have := div_next (n := M.newest) hw
            omega
        show n ∈ _
        rcases e with e | e
        · rw [e]
          exact wanted_old (by rw [c3]; omega)
        · rw [e]
          exact wanted_num
  · intro q hq
    rw [begin_newest]
    rcases (hk1 q).mp hq with hq | hq
    · obtain ⟨u1, u2, u3⟩ := h.up q hq
      have hw := pow_pos' hf (q.1.toNat + 1)
      have := Int.ediv_le_ediv (c := f ^ (q.1.toNat + 1)) hw (show M.newest ≤ M.newest + 1 by omega)
      exact ⟨u1, u2, by omega⟩
    · obtain ⟨i, hi, e1, e2, _⟩ := mem_begun.mp hq
      have hw := pow_pos' hf (i + 1)
      have e3 : q.1.toNat = i := by omega
      rw [e3]
      have d1 := Int.ediv_nonneg h0 (Int.le_of_lt hw)
      have d2 := Int.ediv_nonneg (show 0 ≤ M.newest + 1 by omega) (Int.le_of_lt hw)
      have d3 := Int.ediv_le_ediv (c := f ^ (i + 1)) hw hnew
      rcases mem_wanted e2 with e | e
      · exact ⟨by omega, by omega, by omega⟩
      · rw [c2] at e
        exact ⟨by omega, by omega, by omega⟩
/-! ### a page ended -/
theorem mem_ended2 {num old f : Int} {n : Nat} {q : Int × Int} : q ∈ ended2 num old f n ↔ ∃ i : Nat, i < n ∧ q = ((i : Int), num / f ^ (i + 1)) ∧ num / f ^ (i + 1) ≠ old / f ^ (i + 1) := by
  unfold ended2 endedAt
  rw [List.mem_flatMap]
  constructor
  · rintro ⟨i, hi, h⟩
    split at h
    · rename_i hc
      exact ⟨i, List.mem_range.mp hi, List.mem_singleton.mp h, hc⟩
    · cases h
  · rintro ⟨i, hi, rfl, hc⟩
    exact ⟨i, List.mem_range.mpr hi, by rw [if_pos hc]; simp⟩
theorem nodup_ended2 (num old f : Int) : ∀ n : Nat, (ended2 num old f n).Nodup
  | 0 => by simp [ended2]
  | n + 1 => by
    rw [ended2_succ, List.nodup_append]
    refine ⟨nodup_ended2 num old f n, ?_, fun a ha b hb e => ?_⟩
    · unfold endedAt
      split <;> simp
    · obtain ⟨i, hi, rfl, _⟩ := mem_ended2.mp ha
      unfold endedAt at hb
      split at hb
      · rw [List.mem_singleton] at hb
        rw [hb] at e
        have := congrArg Prod.fst e
        simp at this
        omega
      · cases hb
theorem end_nodes (M : Sto) (f : Int) : keysN (M.endPage f).nodes = (keysN M.nodes).filter fun p => decide (p ∉ M.epList f) := by
  unfold Sto.endPage
  rw [(Sto.changes_kept f _ _).2.2.2.2.1, (Sto.change_kept _ _ _).2.2.2.2.1, dels_keys]
  refine List.filter_congr fun q _ => ?_
  have : q ∈ isortP (M.epList f) ↔ q ∈ M.epList f := (List.mergeSort_perm _ _).mem_iff
  simp only [this]
theorem end_newest {M : Sto} (f : Int) (h : M.heap ≠ []) : (M.endPage f).newest = M.newest := by
  obtain ⟨b1, b2, b3, b4, b5, b6, b7⟩ := Sto.endPage_kept M f
  unfold Sto.newest
  rw [b3, b1, List.length_tail]
  have hlen : M.heap.length ≠ 0 := fun z => h (List.length_eq_zero_iff.mp z)
  omega
theorem epLvl_eq {M : Sto} (f : Int) (h : M.heap ≠ []) : M.epLvl f = if M.heap.tail = [] then -1 else rootLevel (M.oldest + 1) M.newest f := by
  have e1 : M.ep2.newest = M.newest := by
    unfold Sto.newest
    have e2 : M.ep2.heap = M.heap.tail := rfl
    have e3 : M.ep2.oldest = M.oldest + 1 := rfl
    rw [e2, e3, List.length_tail]
    have hlen : M.heap.length ≠ 0 := fun z => h (List.length_eq_zero_iff.mp z)
    omega
  unfold Sto.epLvl Sto.endLevel
  have e2 : M.ep2.heap = M.heap.tail := rfl
  have e3 : M.ep2.oldest = M.oldest + 1 := rfl
  rw [e1, e2, e3]
  by_cases he : M.heap.tail = []
  · rw [if_neg (by simpa using he), if_pos he]
  · rw [if_pos he, if_neg he]
theorem epLvl_top {f : Int} {M : Sto} (hf : 2 ≤ f) (h : NOk f M) (hne : M.heap ≠ []) : M.epLvl f ≤ M.top ∧ -1 ≤ M.epLvl f := by
  have ht := h.top
  rw [if_neg hne] at ht
  rw [epLvl_eq f hne, ht]
  by_cases he : M.heap.tail = []
  · rw [if_pos he]
    have : 0 ≤ rootLevel M.oldest M.newest f := rl_ge f _ _ _ 0
    omega
  · rw [if_neg he]
    have h2 : 2 ≤ M.heap.length := by
      cases e : M.heap with
      | nil => exact absurd e hne
      | cons x r =>
        cases r with
        | nil => rw [e] at he; exact absurd rfl he
        | cons y r => simp
    have h3 := rootLevel_mono (f := f) (by omega) (o := M.oldest) (o' := M.oldest + 1) (n := M.newest) (by omega) (by unfold Sto.newest; omega)
    have : 0 ≤ rootLevel (M.oldest + 1) M.newest f := rl_ge f _ _ _ 0
    omega
theorem ep_ok {f : Int} {M : Sto} (hf : 2 ≤ f) (h : NOk f M) (hne : M.heap ≠ []) : (M.epList f).Nodup ∧ ∀ q ∈ M.epList f, q ∈ keysN M.nodes := by
  obtain ⟨ht, h1⟩ := epLvl_top hf h hne
  have hlen : M.heap.length ≠ 0 := fun z => hne (List.length_eq_zero_iff.mp z)
  have e1 : ended1 M.ep2 (M.epLvl f) = (keysN M.nodes).filter fun q => decide (M.epLvl f < q.1) := rfl
  unfold Sto.epList
  rw [e1]
  refine ⟨List.nodup_append.mpr ⟨h.nd.filter _, nodup_ended2 _ _ _ _, fun a ha b hb e => ?_⟩, fun q hq => ?_⟩
  · have h2 := of_decide_eq_true (List.mem_filter.mp ha).2
    obtain ⟨i, hi, e2, _⟩ := mem_ended2.mp hb
    rw [e, e2] at h2
    simp at h2
    omega
  · rcases List.mem_append.mp hq with hq | hq
    · exact (List.mem_filter.mp hq).1
    · obtain ⟨i, hi, rfl, _⟩ := mem_ended2.mp hq
      exact h.has i (by omega) _ (Int.le_refl _) (Int.ediv_le_ediv (pow_pos' hf _) (by unfold Sto.newest; omega))
theorem NOk.ends {f : Int} {M : Sto} (hf : 2 ≤ f) (h : NOk f M) (hne : M.heap ≠ []) : NOk f (M.endPage f) := by
  obtain ⟨b1, b2, b3, b4, b5, b6, b7⟩ := Sto.endPage_kept M f
  obtain ⟨ht, h1⟩ := epLvl_top hf h hne
  have hn := end_newest (M := M) f hne
  have hk := end_nodes M f
  refine ⟨by rw [hk]; exact h.nd.filter _, ?_, ?_, ?_⟩
  · rw [b4, b1, b3, hn]
    exact epLvl_eq f hne
  · intro l hl n hn1 hn2
    rw [b4] at hl
    rw [b3] at hn1
    rw [hn] at hn2
    have hw := pow_pos' hf (l + 1)
    have hd := Int.ediv_le_ediv (c := f ^ (l + 1)) hw (show M.oldest ≤ M.oldest + 1 by omega)
    rw [hk, List.mem_filter]
    refine ⟨h.has l (by omega) n (by omega) hn2, decide_eq_true fun hm => ?_⟩
    unfold Sto.epList at hm
    rcases List.mem_append.mp hm with hm | hm
    · have h2 := of_decide_eq_true (List.mem_filter.mp hm).2
      simp at h2
      omega
    · obtain ⟨i, hi, e, hc⟩ := mem_ended2.mp hm
      have e1 : (l : Int) = (i : Int) := congrArg Prod.fst e
      have e2 : n = M.oldest / f ^ (i + 1) := congrArg Prod.snd e
      have e3 : l = i := by omega
      subst e3
      omega
  · intro q hq
    rw [hk, List.mem_filter] at hq
    rw [hn]
    exact h.up q hq.1
end KR


namespace KR
/-! ### sizes, kept -/
def Sto.U (s : Sto) : Nat := s.free.length + s.waiting.length + s.log.length + s.heap.length + s.nodes.length
namespace Sto
variable {M : Sto} {f : Int}
theorem take_U {r : Role} (h : (M.U : Int) ≤ M.taken) : ((M.take r).U : Int) + 1 ≤ (M.take r).taken ∧ (M.take r).taken ≤ M.taken + 1 := by
  unfold Sto.take
  by_cases e : M.free = []
  · rw [if_pos e]
    unfold Sto.U at h ⊢
    simp only
    omega
  · rw [if_neg e]
    have hl : M.free.length ≠ 0 := fun z => e (List.length_eq_zero_iff.mp z)
    unfold Sto.U at h ⊢
    simp only [List.length_dropLast]
    omega
theorem change_U (M : Sto) (l k : Int) : (M.change l k).U = M.U ∧ (M.change l k).taken = M.taken ∧ (M.change l k).changed.length ≤ M.changed.length + 1 := by
  obtain ⟨a1, a2, a3, a4, a5, a6, a7, a8, a9, a10⟩ := change_kept M l k
  unfold Sto.U
  rw [a1, a2, a3, a4, a5]
  refine ⟨rfl, a10, ?_⟩
  unfold Sto.change
  split
  · exact putI_len _ _
  · omega
theorem changes_U (f : Int) : ∀ (l : List (Int × Int)) (M : Sto), (M.changes f l).U = M.U ∧ (M.changes f l).taken = M.taken ∧ (M.changes f l).changed.length ≤ M.changed.length + l.length
  | [], M => ⟨rfl, rfl, Nat.le_refl _⟩
  | q :: r, M => by
    obtain ⟨a1, a2, a3⟩ := change_U M (q.1 + 1) (q.2 / f)
    obtain ⟨b1, b2, b3⟩ := changes_U f r (M.change (q.1 + 1) (q.2 / f))
    unfold Sto.changes at *
    rw [List.foldl_cons, List.length_cons]
    exact ⟨b1.trans a1, b2.trans a2, by omega⟩
theorem addNode_U {q : Int × Int} (h : (M.U : Int) ≤ M.taken) : ((M.addNode q).U : Int) ≤ (M.addNode q).taken ∧ (M.addNode q).taken ≤ M.taken + 1 ∧ (M.addNode q).changed.length ≤ M.changed.length + 1 := by
  obtain ⟨h1, h2⟩ := take_U (r := .node q.1 q.2) h
  obtain ⟨t1, t2, t3, t4, t5, t6, t7, t8⟩ := take_kept M (.node q.1 q.2)
  obtain ⟨a1, a2, a3⟩ := change_U { M.take (.node q.1 q.2) with nodes := putN (M.take (.node q.1 q.2)).nodes q M.takeP } q.1 q.2
  have hp := putN_len (M.take (.node q.1 q.2)).nodes q M.takeP
  unfold Sto.addNode
  refine ⟨?_, ?_, ?_⟩
  · rw [a1, a2]
    show (({ M.take (.node q.1 q.2) with nodes := putN (M.take (.node q.1 q.2)).nodes q M.takeP } : Sto).U : Int) ≤ (M.take (.node q.1 q.2)).taken
    unfold Sto.U at h1 ⊢
    simp only
    omega
  · rw [a2]; exact h2
  · refine Nat.le_trans a3 ?_
    show (M.take (.node q.1 q.2)).changed.length + 1 ≤ _
    rw [t5]
    exact Nat.le_refl _
theorem adds_U : ∀ (l : List (Int × Int)) {M : Sto}, (M.U : Int) ≤ M.taken → ((l.foldl Sto.addNode M).U : Int) ≤ (l.foldl Sto.addNode M).taken ∧ (l.foldl Sto.addNode M).taken ≤ M.taken + l.length ∧ (l.foldl Sto.addNode M).changed.length ≤ M.changed.length + l.length
  | [], M, h => ⟨h, by simp, by simp⟩
  | q :: r, M, h => by
    obtain ⟨a1, a2, a3⟩ := addNode_U (q := q) h
    obtain ⟨b1, b2, b3⟩ := adds_U r a1
    rw [List.foldl_cons, List.length_cons]
    exact ⟨b1, by omega, by omega⟩
theorem beginPage_U (h : (M.U : Int) ≤ M.taken) : ((M.beginPage f).U : Int) ≤ (M.beginPage f).taken ∧ (M.beginPage f).taken ≤ M.taken + 1 + (M.bpList f).length ∧ (M.beginPage f).changed.length ≤ M.changed.length + 2 + 2 * (M.bpList f).length := by
  obtain ⟨h1, h2⟩ := take_U (r := .heap (M.newest + 1)) h
  obtain ⟨t1, t2, t3, t4, t5, t6, t7, t8⟩ := take_kept M (.heap (M.newest + 1))
  have h3 : (({ M.bp2 with top := M.bpLvl f } : Sto).U : Int) ≤ ({ M.bp2 with top := M.bpLvl f } : Sto).taken := by
    show (({ M.bp2 with top := M.bpLvl f } : Sto).U : Int) ≤ (M.take (.heap (M.newest + 1))).taken
    have e : ({ M.bp2 with top := M.bpLvl f } : Sto).U = (M.take (.heap (M.newest + 1))).U + 1 := by
      unfold Sto.U
      show (M.take (.heap (M.newest + 1))).free.length + (M.take (.heap (M.newest + 1))).waiting.length + (M.take (.heap (M.newest + 1))).log.length + ((M.take (.heap (M.newest + 1))).heap ++ [M.takeP]).length + (M.take (.heap (M.newest + 1))).nodes.length = _
      rw [List.length_append, List.length_singleton]
      omega
    rw [e]
    omega
  have hc : ({ M.bp2 with top := M.bpLvl f } : Sto).changed.length ≤ M.changed.length + 1 := by
    show (putI (M.take (.heap (M.newest + 1))).changed M.takeP).length ≤ _
    rw [t5]
    exact putI_len _ _
  have ht : ({ M.bp2 with top := M.bpLvl f } : Sto).taken ≤ M.taken + 1 := h2
  obtain ⟨a1, a2, a3⟩ := adds_U (M.bpList f) h3
  obtain ⟨b1, b2, b3⟩ := change_U ((M.bpList f).foldl Sto.addNode { M.bp2 with top := M.bpLvl f }) 0 ((M.newest + 1) / f)
  obtain ⟨c1, c2, c3⟩ := changes_U f (M.bpList f) (((M.bpList f).foldl Sto.addNode { M.bp2 with top := M.bpLvl f }).change 0 ((M.newest + 1) / f))
  unfold Sto.beginPage
  exact ⟨by omega, by omega, by omega⟩
theorem delNode_U {q : Int × Int} (hq : q ∈ keysN M.nodes) : (M.delNode q).U ≤ M.U ∧ (M.delNode q).taken = M.taken ∧ (M.delNode q).changed.length ≤ M.changed.length := by
  have h := len_del hq
  refine ⟨?_, rfl, List.length_filter_le _ _⟩
  unfold Sto.U
  show M.free.length + (M.waiting ++ [(lookN M.nodes q).getD 0]).length + M.log.length + M.heap.length + (M.nodes.filter fun e => decide (e.1 ≠ q)).length ≤ _
  rw [List.length_append, List.length_singleton]
  omega
theorem dels_U : ∀ (l : List (Int × Int)) {M : Sto}, l.Nodup → (∀ q ∈ l, q ∈ keysN M.nodes) → (l.foldl Sto.delNode M).U ≤ M.U ∧ (l.foldl Sto.delNode M).taken = M.taken ∧ (l.foldl Sto.delNode M).changed.length ≤ M.changed.length
  | [], M, _, _ => ⟨Nat.le_refl _, rfl, Nat.le_refl _⟩
  | q :: r, M, hn, hm => by
    obtain ⟨h1, h2⟩ := List.nodup_cons.mp hn
    obtain ⟨a1, a2, a3⟩ := delNode_U (hm q List.mem_cons_self)
    obtain ⟨b1, b2, b3⟩ := dels_U r (M := M.delNode q) h2 fun p hp => by
      have e : (M.delNode q).nodes = M.nodes.filter fun e => decide (e.1 ≠ q) := rfl
      rw [e, keys_del, List.mem_filter]
      exact ⟨hm p (List.mem_cons_of_mem _ hp), decide_eq_true fun z => h1 (by rw [← z]; exact hp)⟩
    rw [List.foldl_cons]
    exact ⟨by omega, b2.trans a2, by omega⟩
theorem endPage_U (hne : M.heap ≠ []) (hn : (M.epList f).Nodup) (hm : ∀ q ∈ M.epList f, q ∈ keysN M.nodes) : (M.endPage f).U ≤ M.U ∧ (M.endPage f).taken = M.taken ∧ (M.endPage f).changed.length ≤ M.changed.length + 1 + (M.epList f).length := by
  have hl : M.heap.length ≠ 0 := fun z => hne (List.length_eq_zero_iff.mp z)
  have hp : (isortP (M.epList f)).Perm (M.epList f) := List.mergeSort_perm _ _
  obtain ⟨a1, a2, a3⟩ := dels_U (isortP (M.epList f)) (M := { M.ep2 with top := M.epLvl f }) (hp.nodup_iff.mpr hn) fun q hq => hm q (hp.mem_iff.mp hq)
  obtain ⟨b1, b2, b3⟩ := change_U ((isortP (M.epList f)).foldl Sto.delNode { M.ep2 with top := M.epLvl f }) 0 (M.oldest / f)
  obtain ⟨c1, c2, c3⟩ := changes_U f (M.epList f) (((isortP (M.epList f)).foldl Sto.delNode { M.ep2 with top := M.epLvl f }).change 0 (M.oldest / f))
  have e : ({ M.ep2 with top := M.epLvl f } : Sto).U ≤ M.U := by
    unfold Sto.U
    show M.free.length + (M.waiting ++ [M.heap.headD 0]).length + M.log.length + M.heap.tail.length + M.nodes.length ≤ _
    rw [List.length_append, List.length_singleton, List.length_tail]
    omega
  have e2 : ({ M.ep2 with top := M.epLvl f } : Sto).changed.length ≤ M.changed.length := List.length_filter_le _ _
  have e3 : ({ M.ep2 with top := M.epLvl f } : Sto).taken = M.taken := rfl
  unfold Sto.endPage
  exact ⟨by omega, c2.trans (b2.trans (a2.trans e3)), by omega⟩
theorem checkpoint_U (M : Sto) : M.checkpoint.U = M.U ∧ M.checkpoint.taken = M.taken ∧ M.checkpoint.changed = [] := by
  refine ⟨?_, rfl, rfl⟩
  unfold Sto.U
  show (M.free ++ (M.waiting ++ M.log)).length + ([] : List Int).length + ([] : List Int).length + M.heap.length + M.nodes.length = _
  simp only [List.length_append, List.length_nil]
  omega
end Sto
end KR


namespace KR
/-! ### a store between rows -/
theorem NOk.congr {f : Int} {s t : Sto} (h : NOk f s) (e1 : t.nodes = s.nodes) (e2 : t.oldest = s.oldest) (e3 : t.heap = s.heap) (e4 : t.top = s.top) : NOk f t := by
  have en : t.newest = s.newest := by unfold Sto.newest; rw [e2, e3]
  obtain ⟨a, b, c, d⟩ := h
  refine ⟨by rw [e1]; exact a, by rw [e4, e3, e2, en]; exact b, ?_, ?_⟩
  · rw [e4, e2, en, e1]; exact c
  · rw [e1, en]; exact d
theorem cf_lt {S : Sett} (h : S.Ok) {p q : Int} (hp : 0 ≤ p) (hpq : p < q) : S.cf.start p < S.cf.start q := Sett.at_mono h (by omega)
theorem cf_le {S : Sett} (h : S.Ok) {p q : Int} (hp : 0 ≤ p) (hpq : p ≤ q) : S.cf.start p ≤ S.cf.start q := Sett.at_le h (by omega)
theorem cf_lt_of {S : Sett} (h : S.Ok) {p q : Int} (hq : 0 ≤ q) (hl : S.cf.start p < S.cf.start q) : p < q := by
  by_cases c : p < q
  · exact c
  · have := cf_le h hq (show q ≤ p by omega)
    omega
theorem cf_ge {S : Sett} (h : S.Ok) {p : Int} (hp : 0 ≤ p) : p ≤ S.cf.start p := by
  have := (Sett.at_bound h p.toNat).1
  show p ≤ S.at p.toNat
  omega
structure InvK (S : Sett) (k : Nat) (s : Sto) : Prop where
  done : s.done = k
  old0 : 0 ≤ s.oldest
  hi : (k : Int) ≤ S.cf.start (s.newest + 1)
  lo : (s.heap = [] ∧ s.oldest = 0 ∧ k = 0) ∨ (s.heap ≠ [] ∧ S.cf.start s.newest < k)
  olo : s.oldest = 0 ∨ S.cf.start s.oldest ≤ k - S.keep
  ohi : k - S.keep < S.cf.start (s.oldest + 1)
  log : (k : Int) % S.every ≠ 0 → s.log ≠ []
  nodes : NOk S.fanout s
  U : (s.U : Int) ≤ s.taken
  tk : s.taken ≤ 24 * k
  ch : (s.changed.length : Int) ≤ 11200 * ((k : Int) % S.every)
theorem InvK.ev {S : Sett} {k : Nat} {s : Sto} (h : InvK S k s) (l : List Ev) : InvK S k { s with ev := l } :=
  ⟨h.done, h.old0, h.hi, h.lo, h.olo, h.ohi, h.log, h.nodes.congr rfl rfl rfl rfl, h.U, h.tk, h.ch⟩
theorem InvK.init (S : Sett) (h : S.Ok) : InvK S 0 Sto.init := by
  have k1 := h.k1
  have a0 : S.cf.start 0 = 0 := rfl
  have a1 : S.cf.start 0 < S.cf.start (0 + 1) := cf_lt h (by omega) (by omega)
  refine ⟨rfl, by decide, ?_, .inl ⟨rfl, rfl, rfl⟩, .inl rfl, ?_, ?_, ⟨?_, rfl, ?_, ?_⟩, ?_, ?_, ?_⟩
  · show (0 : Int) ≤ S.cf.start (Sto.init.newest + 1)
    exact Int.le_refl 0
  · show ((0 : Nat) : Int) - S.keep < S.cf.start (0 + 1)
    omega
  · intro z; simp at z
  · exact List.nodup_nil
  · intro l hl
    have : (l : Int) ≤ -1 := hl
    omega
  · intro q hq; cases hq
  · show ((0 : Nat) : Int) ≤ 0; omega
  · show (0 : Int) ≤ 24 * ((0 : Nat) : Int); omega
  · show ((0 : Nat) : Int) ≤ 11200 * (((0 : Nat) : Int) % S.every); simp
/-- what a row's middle is like: begun, not yet ended -/
structure MidK (S : Sett) (k : Nat) (s t : Sto) : Prop where
  done : t.done = k
  old : t.oldest = s.oldest
  heap : t.heap ≠ []
  hi : (k : Int) < S.cf.start (t.newest + 1)
  lo : S.cf.start t.newest ≤ k
  new0 : 0 ≤ t.newest
  le : t.oldest ≤ t.newest
  newk : t.newest ≤ k
  nodes : NOk S.fanout t
  U : (t.U : Int) ≤ t.taken
  tk : t.taken ≤ s.taken + 24
  ch : t.changed.length ≤ s.changed.length + 50
  log : t.log = (s.logRow S.cf).log
theorem logRow_U {S : Sett} {s : Sto} (h : (s.U : Int) ≤ s.taken) : ((s.logRow S.cf).U : Int) ≤ (s.logRow S.cf).taken ∧ (s.logRow S.cf).taken ≤ s.taken + 1 := by
  unfold Sto.logRow
  split
  · obtain ⟨h1, h2⟩ := Sto.take_U (r := .log (s.done % S.cf.every / S.cf.recs)) h
    refine ⟨?_, h2⟩
    show _ ≤ (s.take (.log (s.done % S.cf.every / S.cf.recs))).taken
    unfold Sto.U at h1 ⊢
    simp only [List.length_append, List.length_singleton]
    omega
  · exact ⟨h, by omega⟩
theorem log_ne {S : Sett} {k : Nat} {s : Sto} (h : InvK S k s) : (s.logRow S.cf).log ≠ [] := by
  unfold Sto.logRow
  split
  · show _ ++ [_] ≠ []
    simp
  · rename_i hc
    refine h.log fun z => hc ?_
    rw [h.done]
    show (k : Int) % S.every % S.recs = 0
    rw [z]
    simp
theorem mid_ok {S : Sett} (hS : S.Ok) {k : Nat} (hk : k < 460) {s : Sto} (h : InvK S k s) : MidK S k s (s.r3 S.cf) := by
  obtain ⟨k1, k2, k3, k4, k5, k6, k7, k8⟩ := Sto.r2_kept s S.cf
  obtain ⟨n1, n2, n3⟩ := Sto.r3_newest s S.cf
  have kp := hS.k1
  have f2 := hS.f2
  have hold := h.old0
  obtain ⟨u1, u2⟩ := logRow_U (S := S) h.U
  have u1' : ((s.r2 S.cf).U : Int) ≤ (s.r2 S.cf).taken := u1
  have u2' : (s.r2 S.cf).taken ≤ s.taken + 1 := u2
  have hN2 : NOk S.fanout (s.r2 S.cf) := h.nodes.congr k3 k1 k4 k2
  by_cases hc : s.done = S.cf.start (s.newest + 1)
  · have e : s.r3 S.cf = (s.r2 S.cf).beginPage S.fanout := by
      unfold Sto.r3
      rw [k8, if_pos hc]
      rfl
    obtain ⟨b1, b2, b3, b4, b5, b6⟩ := Sto.beginPage_kept (s.r2 S.cf) S.fanout
    rw [if_pos hc] at n1
    have hnew0 : 0 ≤ s.newest + 1 := by unfold Sto.newest; omega
    have hge := cf_ge hS hnew0
    have hd := h.done
    have hbl : ((s.r2 S.cf).bpList S.fanout).length ≤ 22 := by
      have hl := rootLevel_lt (b := 10) (o := (s.r2 S.cf).oldest) (n := (s.r2 S.cf).newest + 1) f2 (by rw [k1]; exact hold) (by rw [k1, k8]; unfold Sto.newest; omega) (by rw [k8]; omega)
      refine Nat.le_trans (begun_len _ _ _ _) ?_
      have e1 : (s.r2 S.cf).bpLvl S.fanout = rootLevel (s.r2 S.cf).oldest ((s.r2 S.cf).newest + 1) S.fanout := rfl
      omega
    obtain ⟨v1, v2, v3⟩ := Sto.beginPage_U (f := S.fanout) u1'
    have hlt := cf_lt hS hnew0 (show s.newest + 1 < s.newest + 1 + 1 by omega)
    refine ⟨n3.trans h.done, n2, ?_, ?_, ?_, ?_, ?_, ?_, ?_, ?_, ?_, ?_, ?_⟩
    · rw [e, b1]; simp
    · rw [n1]; omega
    · rw [n1]; omega
    · rw [n1]; exact hnew0
    · rw [n1, n2]; unfold Sto.newest; omega
    · rw [n1]; omega
    · rw [e]; exact hN2.begins f2 (by rw [k1]; exact hold)
    · rw [e]; exact v1
    · rw [e]; omega
    · rw [e]
      rw [k5] at v3
      omega
    · rw [e, b2]; rfl
  · have e : s.r3 S.cf = s.r2 S.cf := by
      unfold Sto.r3
      rw [k8, if_neg hc]
    rw [if_neg hc] at n1
    have hd := h.done
    have hhi := h.hi
    rcases h.lo with ⟨a1, a2, a3⟩ | ⟨a1, a2⟩
    · exfalso
      apply hc
      have e0 : s.newest + 1 = 0 := by unfold Sto.newest; rw [a1, a2]; simp
      rw [e0, hd, a3]
      rfl
    · have hlen : s.heap.length ≠ 0 := fun z => a1 (List.length_eq_zero_iff.mp z)
      have hnew0 : 0 ≤ s.newest := by unfold Sto.newest; omega
      have hge := cf_ge hS hnew0
      refine ⟨n3.trans h.done, n2, ?_, ?_, ?_, ?_, ?_, ?_, ?_, ?_, ?_, ?_, ?_⟩
      · rw [e, k4]; exact a1
      · rw [n1]; omega
      · rw [n1]; omega
      · rw [n1]; exact hnew0
      · rw [n1, n2]; unfold Sto.newest; omega
      · rw [n1]; omega
      · rw [e]; exact hN2
      · rw [e]; exact u1'
      · rw [e]; omega
      · rw [e, k5]; omega
      · rw [e]; rfl
theorem sz_of {s : Sto} {n : Nat} (h1 : s.U ≤ n) (h2 : s.changed.length ≤ n) (h3 : s.ev.length ≤ n) : s.Sz n := by
  unfold Sto.U at h1
  exact ⟨by omega, by omega, by omega, by omega, by omega, h2, h3⟩
theorem mod_succ {k e : Int} (he : 0 < e) (h : (k + 1) % e ≠ 0) : (k + 1) % e = k % e + 1 := by
  have h1 := Int.emod_nonneg k (show e ≠ 0 by omega)
  have h2 := Int.emod_lt_of_pos k he
  have h3 : (k + 1) % e = (k % e + 1) % e := (Int.emod_add_emod k e 1).symm
  rw [h3] at h ⊢
  by_cases c : k % e + 1 < e
  · exact Int.emod_eq_of_lt (by omega) c
  · have : k % e + 1 = e := by omega
    rw [this] at h
    simp at h
/-- row k ends a page: the facts -/
theorem row_ok {S : Sett} (hS : S.Ok) {k : Nat} (hk : k < 460) {s : Sto} (h : InvK S k s) (he : s.ev = []) : s.Rdy S ∧ InvK S (k + 1) (s.putRow S.cf) := by
  have m := mid_ok hS hk h
  obtain ⟨j1, j2, j3, j4, j5, j6, j7⟩ := Sto.r5_kept s S.cf
  have f2 := hS.f2
  have kp := hS.k1
  have e1 := hS.e1
  have e40 := hS.e40
  have hold := h.old0
  have hN5 : NOk S.fanout (s.r5 S.cf) := m.nodes.congr j5 (by rw [j2, m.old]) j4 j7
  have hh5 : (s.r5 S.cf).heap ≠ [] := by rw [j4]; exact m.heap
  obtain ⟨q1, q2⟩ := ep_ok f2 hN5 hh5
  have hmod1 := Int.emod_nonneg (k : Int) (show S.every ≠ 0 by omega)
  have hmod2 := Int.emod_lt_of_pos (k : Int) (show 0 < S.every by omega)
  have hch := h.ch
  have htk := h.tk
  have hU := h.U
  have hrdy : s.Rdy S := by
    have hnew := m.newk
    have hnn : s.newest ≤ (s.r3 S.cf).newest := by
      rw [(Sto.r3_newest s S.cf).1]
      split <;> omega
    refine ⟨?_, by rw [h.done]; omega, hold, by unfold Sto.newest; omega, by omega, log_ne h, m.heap, fun _ => ⟨q1, fun q hq => look_mem.mpr (q2 q hq)⟩⟩
    exact sz_of (by omega) (by omega) (by rw [he]; simp)
  refine ⟨hrdy, ?_⟩
  -- the part after r5
  have h5U : ((s.r5 S.cf).U : Int) ≤ (s.r5 S.cf).taken := m.U
  have h5t : (s.r5 S.cf).taken ≤ s.taken + 24 := m.tk
  have h5c : (s.r5 S.cf).changed.length ≤ s.changed.length + 51 := by
    have := putI_len (s.r3 S.cf).changed ((s.r3 S.cf).heap.getLastD 0)
    have := m.ch
    show (putI _ _).length ≤ _
    omega
  have hnew5 : (s.r5 S.cf).newest = (s.r3 S.cf).newest := j1
  have hlo := m.lo
  have hhi := m.hi
  have hn0 := m.new0
  have hle := m.le
  have hol := m.old
  have hcle := h.ohi
  -- r6
  have R6 : 0 ≤ (s.r6 S.cf).oldest ∧ (s.r6 S.cf).newest = (s.r3 S.cf).newest ∧ (s.r6 S.cf).heap ≠ [] ∧ ((s.r6 S.cf).oldest = 0 ∨ S.cf.start (s.r6 S.cf).oldest ≤ (k : Int) + 1 - S.keep) ∧ (k : Int) + 1 - S.keep < S.cf.start ((s.r6 S.cf).oldest + 1) ∧ (s.r6 S.cf).log = (s.logRow S.cf).log ∧ NOk S.fanout (s.r6 S.cf) ∧ ((s.r6 S.cf).U : Int) ≤ (s.r6 S.cf).taken ∧ (s.r6 S.cf).taken ≤ s.taken + 24 ∧ (s.r6 S.cf).changed.length ≤ s.changed.length + 11200 ∧ (s.r6 S.cf).done = k := by
    unfold Sto.r6
    by_cases hc : s.done - S.keep + 1 = S.cf.start ((s.r5 S.cf).oldest + 1)
    · rw [if_pos (show s.done - S.cf.keep + 1 = S.cf.start ((s.r5 S.cf).oldest + 1) from hc)]
      obtain ⟨b1, b2, b3, b4, b5, b6, b7⟩ := Sto.endPage_kept (s.r5 S.cf) S.fanout
      obtain ⟨v1, v2, v3⟩ := Sto.endPage_U hh5 q1 q2
      rw [j2, h.done] at hc
      have hlt : s.oldest + 1 < (s.r3 S.cf).newest + 1 := cf_lt_of hS (by omega) (by omega)
      have hnx := cf_lt hS (show 0 ≤ s.oldest + 1 by omega) (show s.oldest + 1 < s.oldest + 1 + 1 by omega)
      have hln : (s.r5 S.cf).heap.length ≥ 2 := by
        have e2 : (s.r5 S.cf).newest = (s.r5 S.cf).oldest + (s.r5 S.cf).heap.length - 1 := rfl
        rw [j1, j2] at e2
        omega
      have hep : ((s.r5 S.cf).epList S.fanout).length ≤ 11100 := by
        have hz : (s.r5 S.cf).nodes.length ≤ 11070 := by
          have : (s.r5 S.cf).nodes.length ≤ (s.r5 S.cf).U := by unfold Sto.U; omega
          omega
        have hlv := Sto.epLvl_le (M := s.r5 S.cf) (f := S.fanout) (k := 10) (by rw [j2]; exact hold) (by rw [j1]; have := m.newk; omega) f2 hh5
        unfold Sto.epList
        rw [List.length_append]
        have l1 : (ended1 (s.r5 S.cf).ep2 ((s.r5 S.cf).epLvl S.fanout)).length ≤ (s.r5 S.cf).nodes.length := by
          unfold ended1
          refine Nat.le_trans (List.length_filter_le _ _) ?_
          rw [List.length_map]
          exact Nat.le_refl _
        have l2 := ended2_len (s.r5 S.cf).oldest ((s.r5 S.cf).oldest + 1) S.fanout ((s.r5 S.cf).epLvl S.fanout + 1).toNat
        omega
      have hF : S.cf.f = S.fanout := rfl
      rw [hF]
      refine ⟨by rw [b3, j2]; omega, by rw [end_newest _ hh5]; exact j1, ?_, .inr ?_, ?_, by rw [b2, j6]; exact m.log, hN5.ends f2 hh5, by omega, by omega, by omega, by rw [b5, j3]; exact h.done⟩
      · rw [b1]
        intro z
        have := congrArg List.length z
        rw [List.length_tail] at this
        simp at this
        omega
      · rw [b3, j2]; omega
      · rw [b3, j2]; omega
    · rw [if_neg (show ¬ s.done - S.cf.keep + 1 = S.cf.start ((s.r5 S.cf).oldest + 1) from hc)]
      rw [j2, h.done] at hc
      have holo := h.olo
      refine ⟨by rw [j2]; exact hold, j1, hh5, ?_, ?_, by rw [j6]; exact m.log, hN5, h5U, h5t, by omega, by rw [j3]; exact h.done⟩
      · rw [j2]
        rcases holo with z | z
        · exact .inl z
        · exact .inr (by omega)
      · rw [j2]; omega
  obtain ⟨g1, g2, g3, g4, g5, g6, g7, g8, g9, g10, g11⟩ := R6
  have hck : ((k + 1 : Nat) : Int) = (k : Int) + 1 := by omega
  rw [Sto.putRow_eq]
  have h7d : (s.r7 S.cf).done = (k : Int) + 1 := by
    show (s.r6 S.cf).done + 1 = _
    rw [g11]
  have hE : S.cf.every = S.every := rfl
  rw [h7d, hE]
  by_cases hc : ((k : Int) + 1) % S.every = 0
  · rw [if_pos hc]
    obtain ⟨w1, w2, w3⟩ := Sto.checkpoint_U (s.r7 S.cf)
    refine ⟨?_, g1, ?_, .inr ⟨g3, ?_⟩, ?_, ?_, ?_, g7.congr rfl rfl rfl rfl, ?_, ?_, ?_⟩
    · rw [hck]; exact h7d
    · rw [hck]
      show (k : Int) + 1 ≤ S.cf.start ((s.r6 S.cf).newest + 1)
      rw [g2]; omega
    · rw [hck]
      show S.cf.start (s.r6 S.cf).newest < (k : Int) + 1
      rw [g2]; omega
    · rw [hck]; exact g4
    · rw [hck]; exact g5
    · rw [hck]; exact fun z => absurd hc z
    · rw [w1, w2]; exact g8
    · rw [w2, hck]
      show (s.r6 S.cf).taken ≤ _
      omega
    · rw [w3, hck, hc]; simp
  · rw [if_neg hc]
    have hmod3 := mod_succ (k := (k : Int)) (show 0 < S.every by omega) hc
    refine ⟨?_, g1, ?_, .inr ⟨g3, ?_⟩, ?_, ?_, ?_, g7.congr rfl rfl rfl rfl, g8, ?_, ?_⟩
    · rw [hck]; exact h7d
    · rw [hck]
      show (k : Int) + 1 ≤ S.cf.start ((s.r6 S.cf).newest + 1)
      rw [g2]; omega
    · rw [hck]
      show S.cf.start (s.r6 S.cf).newest < (k : Int) + 1
      rw [g2]; omega
    · rw [hck]; exact g4
    · rw [hck]; exact g5
    · intro _
      show (s.r6 S.cf).log ≠ []
      rw [g6]
      exact log_ne h
    · rw [hck]
      show (s.r6 S.cf).taken ≤ _
      omega
    · rw [hck, hmod3]
      show ((s.r6 S.cf).changed.length : Int) ≤ _
      omega
theorem inv_run {S : Sett} (hS : S.Ok) : ∀ k : Nat, k ≤ 460 → InvK S k (S.run k)
  | 0, _ => InvK.init S hS
  | k + 1, hk => (row_ok hS (by omega) ((inv_run hS k (by omega)).ev []) rfl).2
theorem good_of {S : Sett} (h : S.Ok) : S.Good 460 := fun k hk => (row_ok h hk ((inv_run h k (by omega)).ev []) rfl).1
end KR


namespace KR
/-! ### alike settings: the same rows -/
theorem rec_same {r r' e p : Int} (h : mn r e = mn r' e) (h0 : 0 ≤ p) (hp : p < e) : p % r = p % r' ∧ p / r = p / r' := by
  unfold mn at h
  by_cases c : e < r
  · rw [if_pos c] at h
    by_cases c' : e < r'
    · rw [Int.emod_eq_of_lt h0 (by omega), Int.emod_eq_of_lt h0 (by omega), Int.ediv_eq_zero_of_lt h0 (by omega), Int.ediv_eq_zero_of_lt h0 (by omega)]
      exact ⟨rfl, rfl⟩
    · rw [if_neg c'] at h
      subst h
      rw [Int.emod_eq_of_lt h0 (by omega), Int.emod_eq_of_lt h0 (by omega), Int.ediv_eq_zero_of_lt h0 (by omega), Int.ediv_eq_zero_of_lt h0 (by omega)]
      exact ⟨rfl, rfl⟩
  · rw [if_neg c] at h
    by_cases c' : e < r'
    · rw [if_pos c'] at h
      rw [h, Int.emod_eq_of_lt h0 (by omega), Int.emod_eq_of_lt h0 (by omega), Int.ediv_eq_zero_of_lt h0 (by omega), Int.ediv_eq_zero_of_lt h0 (by omega)]
      exact ⟨rfl, rfl⟩
    · rw [if_neg c'] at h
      rw [h]
      exact ⟨rfl, rfl⟩
theorem logRow_same {s : Sto} {c c' : Cf} (h1 : s.done % c.every % c.recs = s.done % c'.every % c'.recs) (h2 : s.done % c.every / c.recs = s.done % c'.every / c'.recs) : s.logRow c = s.logRow c' := by
  unfold Sto.logRow
  rw [h1, h2]
/-- two ways of doing a row that agree on every choice -/
theorem putRow_same {s : Sto} {c c' : Cf} (hl : s.logRow c = s.logRow c') (hb : s.done = c.start (s.newest + 1) ↔ s.done = c'.start (s.newest + 1)) (hbp : s.done = c.start (s.newest + 1) → (s.r2 c).beginPage c.f = (s.r2 c).beginPage c'.f)
    (he : s.done - c.keep + 1 = c.start (s.oldest + 1) ↔ s.done - c'.keep + 1 = c'.start (s.oldest + 1)) (hep : s.done - c.keep + 1 = c.start (s.oldest + 1) → (s.r5 c).endPage c.f = (s.r5 c).endPage c'.f)
    (hc : (s.done + 1) % c.every = 0 ↔ (s.done + 1) % c'.every = 0) : s.putRow c = s.putRow c' := by
  have e2 : s.r2 c = s.r2 c' := by unfold Sto.r2; rw [hl]
  have k8 := (Sto.r2_kept s c).2.2.2.2.2.2.2
  have k8' := (Sto.r2_kept s c').2.2.2.2.2.2.2
  have e3 : s.r3 c = s.r3 c' := by
    unfold Sto.r3
    rw [k8, k8']
    by_cases h : s.done = c.start (s.newest + 1)
    · rw [if_pos h, if_pos (hb.mp h), hbp h, e2]
    · rw [if_neg h, if_neg (fun z => h (hb.mpr z)), e2]
  have e5 : s.r5 c = s.r5 c' := by unfold Sto.r5; rw [e3]
  have o5 := (Sto.r5_kept s c).2.1
  have o5' := (Sto.r5_kept s c').2.1
  have e6 : s.r6 c = s.r6 c' := by
    unfold Sto.r6
    rw [o5, o5']
    by_cases h : s.done - c.keep + 1 = c.start (s.oldest + 1)
    · rw [if_pos h, if_pos (he.mp h), hep h, e5]
    · rw [if_neg h, if_neg (fun z => h (he.mpr z)), e5]
  have e7 : s.r7 c = s.r7 c' := by unfold Sto.r7; rw [e6]
  have d7 : (s.r7 c).done = s.done + 1 := by
    show (s.r6 c).done + 1 = _
    have h5 := (Sto.r5_kept s c).2.2.1
    unfold Sto.r6
    split
    · rw [(Sto.endPage_kept _ _).2.2.2.2.1, h5]
    · rw [h5]
  rw [Sto.putRow_eq, Sto.putRow_eq, ← e7, d7]
  by_cases h : (s.done + 1) % c.every = 0
  · rw [if_pos h, if_pos (hc.mp h)]
  · rw [if_neg h, if_neg (fun z => h (hc.mpr z))]
theorem alike_run {S S' : Sett} (h : Alike S S') (h1 : S.Ok) : ∀ j, S.run j = S'.run j
  | 0 => rfl
  | j + 1 => by
    have ih := alike_run h h1 j
    show (S.run j).step S.cf = (S'.run j).step S'.cf
    rw [ih]
    unfold Sto.step
    generalize ({ S'.run j with ev := [] } : Sto) = s
    have ef : S.cf.f = S'.cf.f := h.f
    have ek : S.cf.keep = S'.cf.keep := h.k
    have ee : S.cf.every = S'.cf.every := h.e
    have es : S.cf.start = S'.cf.start := funext fun p => h.a p.toNat
    have e1 := h1.e1
    have hm1 := Int.emod_nonneg s.done (show S.every ≠ 0 by omega)
    have hm2 := Int.emod_lt_of_pos s.done (show 0 < S.every by omega)
    have hr := h.r
    rw [← h.e] at hr
    obtain ⟨q1, q2⟩ := rec_same hr hm1 hm2
    refine putRow_same (logRow_same ?_ ?_) (by rw [es]) (fun _ => by rw [ef]) (by rw [ek, es]) (fun _ => by rw [ef]) (by rw [ee])
    · rw [← ee]; exact q1
    · rw [← ee]; exact q2
theorem alike_evs {S S' : Sett} (h : Alike S S') (h1 : S.Ok) (h2 : S'.Ok) : ∀ j, S.evs j = S'.evs j := fun j => by
  unfold Sett.evs
  rw [alike_run h h1]
/-! ### what a row's events tell -/
def ek : Ev → Nat
  | .take _ (.log _) => 0
  | .take _ (.heap _) => 1
  | .take _ (.node _ _) => 2
  | .record _ _ => 3
  | .put _ _ => 4
  | .give _ (.heap _) => 5
  | .give _ (.node _ _) => 6
  | .give _ (.log _) => 9
  | .write _ => 7
  | .free _ => 8
def has (k : Nat) (l : List Ev) : Prop := ∃ e ∈ l, ek e = k
theorem has_app {k : Nat} {a b : List Ev} : has k (a ++ b) ↔ has k a ∨ has k b := by
  unfold has
  constructor
  · rintro ⟨e, h, q⟩
    rcases List.mem_append.mp h with h | h
    · exact .inl ⟨e, h, q⟩
    · exact .inr ⟨e, h, q⟩
  · rintro (⟨e, h, q⟩ | ⟨e, h, q⟩)
    · exact ⟨e, List.mem_append_left _ h, q⟩
    · exact ⟨e, List.mem_append_right _ h, q⟩
theorem has_one {k : Nat} {e : Ev} : has k [e] ↔ ek e = k := by simp [has]
theorem has_nil {k : Nat} : ¬ has k [] := by simp [has]
theorem has_all {k m : Nat} {l : List Ev} (h : ∀ e ∈ l, ek e = m) (hk : m ≠ k) : ¬ has k l := fun ⟨e, h1, h2⟩ => hk ((h e h1).symm.trans h2)
def hasN (q : Int × Int) (l : List Ev) : Prop := ∃ pg, Ev.take pg (.node q.1 q.2) ∈ l
theorem hasN_app {q : Int × Int} {a b : List Ev} : hasN q (a ++ b) ↔ hasN q a ∨ hasN q b := by
  unfold hasN
  constructor
  · rintro ⟨e, h⟩
    rcases List.mem_append.mp h with h | h
    · exact .inl ⟨e, h⟩
    · exact .inr ⟨e, h⟩
  · rintro (⟨e, h⟩ | ⟨e, h⟩)
    · exact ⟨e, List.mem_append_left _ h⟩
    · exact ⟨e, List.mem_append_right _ h⟩
theorem hasN_not {q : Int × Int} {l : List Ev} (h : ∀ e ∈ l, ek e ≠ 2) : ¬ hasN q l := fun ⟨pg, z⟩ => h _ z rfl
theorem take_ev (s : Sto) (r : Role) : (s.take r).ev = s.ev ++ [.take s.takeP r] := by
  unfold Sto.take Sto.takeP
  by_cases h : s.free = []
  · rw [if_pos h, if_pos h]
  · rw [if_neg h, if_neg h]
theorem adds_ev : ∀ (l : List (Int × Int)) (M : Sto), ∃ m : List Ev, (l.foldl Sto.addNode M).ev = M.ev ++ m ∧ (∀ e ∈ m, ek e = 2) ∧ ∀ q, hasN q m ↔ q ∈ l
  | [], M => ⟨[], by simp, by simp, fun q => by simp [hasN]⟩
  | p :: r, M => by
    obtain ⟨m, e1, e2, e3⟩ := adds_ev r (M.addNode p)
    have e4 : (M.addNode p).ev = M.ev ++ [.take M.takeP (.node p.1 p.2)] := ((Sto.addNode_kept M p).2.2.2.2.1).trans (take_ev _ _)
    refine ⟨.take M.takeP (.node p.1 p.2) :: m, ?_, ?_, fun q => ?_⟩
    · rw [List.foldl_cons, e1, e4]; simp
    · intro e he
      rcases List.mem_cons.mp he with rfl | he
      · rfl
      · exact e2 e he
    · rw [List.mem_cons, ← e3 q]
      unfold hasN
      constructor
      · rintro ⟨pg, h⟩
        rcases List.mem_cons.mp h with h | h
        · have h2 := (Ev.take.inj h).2
          have h3 := Role.node.inj h2
          exact .inl (Prod.ext h3.1 h3.2)
        · exact .inr ⟨pg, h⟩
      · rintro (rfl | ⟨pg, h⟩)
        · exact ⟨_, List.mem_cons_self⟩
        · exact ⟨pg, List.mem_cons_of_mem _ h⟩
theorem dels_ev : ∀ (l : List (Int × Int)) (M : Sto), ∃ m : List Ev, (l.foldl Sto.delNode M).ev = M.ev ++ m ∧ ∀ e ∈ m, ek e = 6
  | [], M => ⟨[], by simp, by simp⟩
  | p :: r, M => by
    obtain ⟨m, e1, e2⟩ := dels_ev r (M.delNode p)
    refine ⟨.give ((lookN M.nodes p).getD 0) (.node p.1 p.2) :: m, ?_, ?_⟩
    · rw [List.foldl_cons, e1]
      show (M.ev ++ [_]) ++ m = _
      simp
    · intro e he
      rcases List.mem_cons.mp he with rfl | he
      · rfl
      · exact e2 e he
theorem begin_ev (M : Sto) (f : Int) : ∃ m : List Ev, (M.beginPage f).ev = M.ev ++ ([.take M.takeP (.heap (M.newest + 1))] ++ m) ∧ (∀ e ∈ m, ek e = 2) ∧ ∀ q, hasN q m ↔ q ∈ M.bpList f := by
  obtain ⟨m, e1, e2, e3⟩ := adds_ev (M.bpList f) { M.bp2 with top := M.bpLvl f }
  refine ⟨m, ?_, e2, e3⟩
  unfold Sto.beginPage
  rw [(Sto.changes_kept f _ _).2.2.2.2.2.1, (Sto.change_kept _ _ _).2.2.2.2.2.1, e1]
  show (M.take (.heap (M.newest + 1))).ev ++ m = _
  rw [take_ev]
  simp
theorem end_ev (M : Sto) (f : Int) : ∃ m : List Ev, (M.endPage f).ev = M.ev ++ ([.give (M.heap.headD 0) (.heap M.oldest)] ++ m) ∧ ∀ e ∈ m, ek e = 6 := by
  obtain ⟨m, e1, e2⟩ := dels_ev (isortP (M.epList f)) { M.ep2 with top := M.epLvl f }
  refine ⟨m, ?_, e2⟩
  unfold Sto.endPage
  rw [(Sto.changes_kept f _ _).2.2.2.2.2.1, (Sto.change_kept _ _ _).2.2.2.2.2.1, e1]
  show (M.ev ++ [_]) ++ m = _
  simp
/-- a row's events, by kind -/
theorem row_ev (s : Sto) (c : Cf) (he : s.ev = []) :
    (has 0 (s.putRow c).ev ↔ s.done % c.every % c.recs = 0) ∧ (has 1 (s.putRow c).ev ↔ s.done = c.start (s.newest + 1)) ∧ (has 5 (s.putRow c).ev ↔ s.done - c.keep + 1 = c.start (s.oldest + 1)) ∧
    ((s.logRow c).log ≠ [] → (has 8 (s.putRow c).ev ↔ (s.done + 1) % c.every = 0)) ∧ ∀ q, hasN q (s.putRow c).ev ↔ s.done = c.start (s.newest + 1) ∧ q ∈ (s.r2 c).bpList c.f := by
  obtain ⟨L, hL, hLk⟩ : ∃ L, (s.logRow c).ev = L ∧ ((s.done % c.every % c.recs = 0 ∧ ∃ pg p, L = [.take pg (.log p)]) ∨ (¬ s.done % c.every % c.recs = 0 ∧ L = [])) := by
    refine ⟨_, rfl, ?_⟩
    unfold Sto.logRow
    by_cases h : s.done % c.every % c.recs = 0
    · rw [if_pos h]
      refine .inl ⟨h, s.takeP, s.done % c.every / c.recs, ?_⟩
      show (s.take _).ev = _
      rw [take_ev, he]
      rfl
    · rw [if_neg h]
      exact .inr ⟨h, he⟩
  obtain ⟨k1, k2, k3, k4, k5, k6, k7, k8⟩ := Sto.r2_kept s c
  have e2 : (s.r2 c).ev = L ++ [.record ((s.logRow c).log.getLastD 0) s.done] := by
    show (s.logRow c).ev ++ _ = _
    rw [hL]
  obtain ⟨B, hB, hBk⟩ : ∃ B, (s.r3 c).ev = (s.r2 c).ev ++ B ∧ ((s.done = c.start (s.newest + 1) ∧ ∃ pg n m, B = [.take pg (.heap n)] ++ m ∧ (∀ e ∈ m, ek e = 2) ∧ ∀ q, hasN q m ↔ q ∈ (s.r2 c).bpList c.f) ∨ (¬ s.done = c.start (s.newest + 1) ∧ B = [])) := by
    unfold Sto.r3
    rw [k8]
    by_cases h : s.done = c.start (s.newest + 1)
    · rw [if_pos h]
      obtain ⟨m, e1, e3, e4⟩ := begin_ev (s.r2 c) c.f
      exact ⟨_, e1, .inl ⟨h, _, _, m, rfl, e3, e4⟩⟩
    · rw [if_neg h]
      exact ⟨[], by simp, .inr ⟨h, rfl⟩⟩
  have e5 : (s.r5 c).ev = (s.r3 c).ev ++ [.put ((s.r3 c).heap.getLastD 0) s.done] := rfl
  obtain ⟨j1, j2, j3, j4, j5, j6, j7⟩ := Sto.r5_kept s c
  obtain ⟨E, hE, hEk⟩ : ∃ E, (s.r6 c).ev = (s.r5 c).ev ++ E ∧ ((s.done - c.keep + 1 = c.start (s.oldest + 1) ∧ ∃ pg n m, E = [.give pg (.heap n)] ++ m ∧ ∀ e ∈ m, ek e = 6) ∨ (¬ s.done - c.keep + 1 = c.start (s.oldest + 1) ∧ E = [])) := by
    unfold Sto.r6
    rw [j2]
    by_cases h : s.done - c.keep + 1 = c.start (s.oldest + 1)
    · rw [if_pos h]
      obtain ⟨m, e1, e3⟩ := end_ev (s.r5 c) c.f
      exact ⟨_, e1, .inl ⟨h, _, _, m, rfl, e3⟩⟩
    · rw [if_neg h]
      exact ⟨[], by simp, .inr ⟨h, rfl⟩⟩
  have d7 : (s.r7 c).done = s.done + 1 := by
    show (s.r6 c).done + 1 = _
    unfold Sto.r6
    split
    · rw [(Sto.endPage_kept _ _).2.2.2.2.1, j3]
    · rw [j3]
  have l7 : (s.r7 c).log = (s.logRow c).log := by
    show (s.r6 c).log = _
    have e3l : (s.r3 c).log = (s.r2 c).log := by
      unfold Sto.r3
      split
      · exact (Sto.beginPage_kept _ _).2.1
      · rfl
    unfold Sto.r6
    split
    · rw [(Sto.endPage_kept _ _).2.1, j6, e3l]; rfl
    · rw [j6, e3l]; rfl
  obtain ⟨C, hC, hCk⟩ : ∃ C, (s.putRow c).ev = (s.r6 c).ev ++ C ∧ (((s.done + 1) % c.every = 0 ∧ ∃ ws fs : List Int, C = ws.map Ev.write ++ fs.map Ev.free ∧ ((s.logRow c).log ≠ [] → fs ≠ [])) ∨ (¬ (s.done + 1) % c.every = 0 ∧ C = [])) := by
    rw [Sto.putRow_eq, d7]
    by_cases h : (s.done + 1) % c.every = 0
    · rw [if_pos h]
      refine ⟨_, ?_, .inl ⟨h, isortI (s.r7 c).changed, (s.r7 c).waiting ++ (s.r7 c).log, rfl, fun hl z => hl ?_⟩⟩
      · show ((s.r6 c).ev ++ _) ++ _ = _
        rw [List.append_assoc]
      · rw [← l7]
        exact (List.append_eq_nil_iff.mp z).2
    · rw [if_neg h]
      exact ⟨[], by show (s.r6 c).ev = _; simp, .inr ⟨h, rfl⟩⟩
  have ev : (s.putRow c).ev = L ++ [.record ((s.logRow c).log.getLastD 0) s.done] ++ B ++ [.put ((s.r3 c).heap.getLastD 0) s.done] ++ E ++ C := by rw [hC, hE, e5, hB, e2]
  have hw : ∀ (ws : List Int) (k : Nat), 7 ≠ k → ¬ has k (ws.map Ev.write) := fun ws k hk => has_all (m := 7) (fun e he => by obtain ⟨x, _, rfl⟩ := List.mem_map.mp he; rfl) hk
  have hf : ∀ (ws : List Int) (k : Nat), 8 ≠ k → ¬ has k (ws.map Ev.free) := fun ws k hk => has_all (m := 8) (fun e he => by obtain ⟨x, _, rfl⟩ := List.mem_map.mp he; rfl) hk
  have Lk : ∀ k, k ≠ 0 → ¬ has k L := fun k hk => by
    rcases hLk with ⟨_, pg, p, rfl⟩ | ⟨_, rfl⟩
    · rw [has_one]; exact fun z => hk z.symm
    · exact has_nil
  have Bk : ∀ k, k ≠ 1 → k ≠ 2 → ¬ has k B := fun k hk hk2 => by
    rcases hBk with ⟨_, pg, n, m, rfl, h2, _⟩ | ⟨_, rfl⟩
    · rw [has_app, has_one]
      rintro (z | z)
      · exact hk z.symm
      · exact has_all h2 (fun z => hk2 z.symm) z
    · exact has_nil
  have Ek : ∀ k, k ≠ 5 → k ≠ 6 → ¬ has k E := fun k hk hk2 => by
    rcases hEk with ⟨_, pg, n, m, rfl, h2⟩ | ⟨_, rfl⟩
    · rw [has_app, has_one]
      rintro (z | z)
      · exact hk z.symm
      · exact has_all h2 (fun z => hk2 z.symm) z
    · exact has_nil
  have Ck : ∀ k, k ≠ 7 → k ≠ 8 → ¬ has k C := fun k hk hk2 => by
    rcases hCk with ⟨_, ws, fs, rfl, _⟩ | ⟨_, rfl⟩
    · rw [has_app]
      rintro (z | z)
      · exact hw ws k (fun z => hk z.symm) z
      · exact hf fs k (fun z => hk2 z.symm) z
    · exact has_nil
  have toN : ∀ l q, hasN q l → has 2 l := fun l q ⟨pg, z⟩ => ⟨_, z, rfl⟩
  rw [ev]
  simp only [has_app, has_one, hasN_app]
  refine ⟨?_, ?_, ?_, fun hlog => ?_, fun q => ?_⟩
  · have hb := Bk 0 (by decide) (by decide)
    have hE0 := Ek 0 (by decide) (by decide)
    have hc := Ck 0 (by decide) (by decide)
    simp only [hb, hE0, hc, ek, or_false, show ¬ (3 = 0) by decide, show ¬ (4 = 0) by decide]
    rcases hLk with ⟨h, pg, p, rfl⟩ | ⟨h, rfl⟩
    · simp [has_one, ek, h]
    · simp [has_nil, h]
  · have hl := Lk 1 (by decide)
    have hE0 := Ek 1 (by decide) (by decide)
    have hc := Ck 1 (by decide) (by decide)
    simp only [hl, hE0, hc, ek, or_false, false_or, show ¬ (3 = 1) by decide, show ¬ (4 = 1) by decide]
    rcases hBk with ⟨h, pg, n, m, rfl, _⟩ | ⟨h, rfl⟩
    · exact ⟨fun _ => h, fun _ => has_app.mpr (.inl ⟨_, List.mem_singleton.mpr rfl, rfl⟩)⟩
    · simp [has_nil, h]
  · have hl := Lk 5 (by decide)
    have hb := Bk 5 (by decide) (by decide)
    have hc := Ck 5 (by decide) (by decide)
    simp only [hl, hb, hc, ek, or_false, false_or, show ¬ (3 = 5) by decide, show ¬ (4 = 5) by decide]
    rcases hEk with ⟨h, pg, n, m, rfl, _⟩ | ⟨h, rfl⟩
    · exact ⟨fun _ => h, fun _ => has_app.mpr (.inl ⟨_, List.mem_singleton.mpr rfl, rfl⟩)⟩
    · simp [has_nil, h]
  · have hl := Lk 8 (by decide)
    have hb := Bk 8 (by decide) (by decide)
    have hE0 := Ek 8 (by decide) (by decide)
    simp only [hl, hb, hE0, ek, or_false, false_or, show ¬ (3 = 8) by decide, show ¬ (4 = 8) by decide]
    rcases hCk with ⟨h, ws, fs, rfl, hne⟩ | ⟨h, rfl⟩
    · have hn := hne hlog
      cases fs with
      | nil => exact absurd rfl hn
      | cons x r =>
        rw [has_app]
        exact ⟨fun _ => h, fun _ => .inr ⟨.free x, by simp, rfl⟩⟩
    · simp [has_nil, h]
  · have hl : ¬ hasN q L := fun z => Lk 2 (by decide) (toN _ _ z)
    have hE0 : ¬ hasN q E := fun z => Ek 2 (by decide) (by decide) (toN _ _ z)
    have hc : ¬ hasN q C := fun z => Ck 2 (by decide) (by decide) (toN _ _ z)
    have hr : ¬ hasN q [.record ((s.logRow c).log.getLastD 0) s.done] := fun ⟨pg, z⟩ => by simp at z
    have hp : ¬ hasN q [.put ((s.r3 c).heap.getLastD 0) s.done] := fun ⟨pg, z⟩ => by simp at z
    simp only [hl, hE0, hc, hr, hp, or_false, false_or]
    rcases hBk with ⟨h, pg, n, m, rfl, _, h3⟩ | ⟨h, rfl⟩
    · have h1 : ¬ hasN q [.take pg (.heap n)] := fun ⟨pg, z⟩ => by simp at z
      rw [hasN_app, h3 q]
      simp [h1, h]
    · have h1 : ¬ hasN q [] := fun ⟨pg, z⟩ => by cases z
      simp [h1, h]
end KR


namespace KR
def Sett.Fine (S : Sett) : Prop := ∀ a, S.rowsFrom a ≤ 8
theorem Sett.fill_mul {S : Sett} {m : Int} (hm : ∀ r, m ≤ S.lenAt r) (a : Int) : ∀ (k : Nat) (f u : Int), m * f ≤ u → u ≤ S.size → m * S.fill a k f u ≤ S.size
  | 0, f, u, h1, h2 => by unfold Sett.fill; omega
  | k + 1, f, u, h1, h2 => by
    unfold Sett.fill
    have h3 := hm (a + f)
    split
    · refine Sett.fill_mul hm a k _ _ ?_ (by assumption)
      rw [Int.mul_add, Int.mul_one]
      omega
    · omega
theorem Sett.rows_mul {S : Sett} (h : S.Ok) {m : Int} (hm : ∀ r, m ≤ S.lenAt r) (a : Int) : m * S.rowsFrom a ≤ S.size := Sett.fill_mul hm a 65 0 0 (by simp) (by have := h.size1; omega)
theorem Sett.fine1 {S : Sett} (h : S.Ok) (h8 : S.size ≤ 8) : S.Fine := fun a => by
  have := Sett.rows_mul h (m := 1) (fun r => (h.lenAt r).1) a
  omega
structure LongS (S : Sett) : Prop where
  ok : S.Ok
  l : S.lengths = [1]
  f7 : S.fanout ≤ 7
  r15 : S.recs ≤ 15
  e17 : 17 ≤ S.every
  e39 : S.every ≤ 39
  k99 : S.keep ≤ 99
theorem parts_symm {S S' : Sett} {r : Nat} (h : PartsAt S S' r) : PartsAt S' S r := ⟨fun j hj => (h.1 j hj).symm, fun e => h.2 e.symm⟩
theorem alike_symm {S S' : Sett} (h : Alike S S') : Alike S' S := ⟨h.f.symm, h.k.symm, h.e.symm, h.r.symm, fun k => (h.a k).symm⟩
theorem alike_refl (S : Sett) : Alike S S := ⟨rfl, rfl, rfl, rfl, fun _ => rfl⟩
end KR


namespace KR
/-! ### settings that are not alike part -/
def Sett.pre (S : Sett) (k : Nat) : Sto := { S.run k with ev := [] }
theorem evs_eq (S : Sett) (k : Nat) : S.evs k = ((S.pre k).putRow S.cf).ev := rfl
theorem pre_inv {S : Sett} (hS : S.Ok) {k : Nat} (hk : k ≤ 460) : InvK S k (S.pre k) := (inv_run hS k hk).ev []
theorem newest_of {S : Sett} (hS : S.Ok) {k p : Nat} {s : Sto} (h : InvK S k s) (hp : S.at p = k) : s.newest + 1 = p := by
  have hn : 0 ≤ s.newest + 1 := by have := h.old0; unfold Sto.newest; omega
  have hpc : S.cf.start (p : Int) = k := hp
  have hhi := h.hi
  by_cases c1 : s.newest + 1 < p
  · have := cf_lt hS hn c1
    omega
  · by_cases c2 : (p : Int) < s.newest + 1
    · rcases h.lo with ⟨a1, a2, a3⟩ | ⟨a1, a2⟩
      · have : s.newest + 1 = 0 := by unfold Sto.newest; rw [a1, a2]; simp
        omega
      · have := cf_le hS (show 0 ≤ (p : Int) by omega) (show (p : Int) ≤ s.newest by omega)
        omega
    · omega
theorem begins_iff {S : Sett} (hS : S.Ok) {k : Nat} {s : Sto} (h : InvK S k s) : s.done = S.cf.start (s.newest + 1) ↔ ∃ p : Nat, S.at p = k := by
  have hn : 0 ≤ s.newest + 1 := by have := h.old0; unfold Sto.newest; omega
  constructor
  · intro e
    rw [h.done] at e
    exact ⟨(s.newest + 1).toNat, e.symm⟩
  · rintro ⟨p, hp⟩
    rw [newest_of hS h hp, h.done]
    exact hp.symm
theorem partA {S S' : Sett} (h : S.Ok) (h' : S'.Ok) {p : Nat} (hj : ∀ j, j < p → S.at j = S'.at j) (hlt : S.at p < S'.at p) (hb : S.at p < 460) : S.evs (S.at p).toNat ≠ S'.evs (S.at p).toNat := by
  have h0 := (Sett.at_bound h p).1
  have hk : (((S.at p).toNat : Nat) : Int) = S.at p := by omega
  have i1 := pre_inv h (k := (S.at p).toNat) (by omega)
  have i2 := pre_inv h' (k := (S.at p).toNat) (by omega)
  have r1 := (row_ev (S.pre (S.at p).toNat) S.cf rfl).2.1
  have r2 := (row_ev (S'.pre (S.at p).toNat) S'.cf rfl).2.1
  rw [begins_iff h i1, ← evs_eq] at r1
  rw [begins_iff h' i2, ← evs_eq] at r2
  intro e
  rw [e] at r1
  obtain ⟨q, hq⟩ := r2.mp (r1.mpr ⟨p, hk.symm⟩)
  rw [hk] at hq
  by_cases c : q < p
  · have e2 := hj q c
    have := Sett.at_mono h c
    omega
  · have := Sett.at_le h' (show p ≤ q by omega)
    omega
theorem partB {S S' : Sett} (h : S.Ok) (h' : S'.Ok) (hf : S.fanout < S'.fanout) (ha : S.at S.fanout.toNat = S'.at S.fanout.toNat) (hb : S.at S.fanout.toNat < 460) : S.evs (S.at S.fanout.toNat).toNat ≠ S'.evs (S.at S.fanout.toNat).toNat := by
  have f2 := h.f2
  have f2' := h'.f2
  have h0 := (Sett.at_bound h S.fanout.toNat).1
  have hfc : ((S.fanout.toNat : Nat) : Int) = S.fanout := by omega
  generalize hk0 : (S.at S.fanout.toNat).toNat = k
  have hk : S.at S.fanout.toNat = (k : Int) := by omega
  have hk' : S'.at S.fanout.toNat = (k : Int) := ha.symm.trans hk
  have i1 := pre_inv h (k := k) (by omega)
  have i2 := pre_inv h' (k := k) (by omega)
  have r1 := (row_ev (S.pre k) S.cf rfl).2.2.2.2 (0, 1)
  have r2 := (row_ev (S'.pre k) S'.cf rfl).2.2.2.2 (0, 1)
  rw [begins_iff h i1, ← evs_eq] at r1
  rw [begins_iff h' i2, ← evs_eq] at r2
  have n1 := newest_of h i1 hk
  have n2 := newest_of h' i2 hk'
  rw [hfc] at n1 n2
  obtain ⟨k1, k2, k3, k4, k5, k6, k7, k8⟩ := Sto.r2_kept (S.pre k) S.cf
  obtain ⟨g1, g2, g3, g4, g5, g6, g7, g8⟩ := Sto.r2_kept (S'.pre k) S'.cf
  obtain ⟨c1, c2, c3⟩ := bp2_nodes ((S.pre k).r2 S.cf)
  obtain ⟨d1, d2, d3⟩ := bp2_nodes ((S'.pre k).r2 S'.cf)
  intro e
  rw [e] at r1
  have hin : ((0 : Int), (1 : Int)) ∈ ((S.pre k).r2 S.cf).bpList S.cf.f := by
    have hF : S.cf.f = S.fanout := rfl
    rw [hF]
    have f8 := h.f8
    have hl := (rootLevel_lt (b := 4) (o := ((S.pre k).r2 S.cf).oldest) (n := ((S.pre k).r2 S.cf).newest + 1) f2 (by rw [k1]; exact i1.old0) (by unfold Sto.newest; omega) (by rw [k8]; omega)).1
    refine mem_begun.mpr ⟨0, ?_, rfl, ?_, ?_⟩
    · have e1 : ((S.pre k).r2 S.cf).bpLvl S.fanout = rootLevel ((S.pre k).r2 S.cf).oldest (((S.pre k).r2 S.cf).newest + 1) S.fanout := rfl
      omega
    · have e1 : (1 : Int) = (((S.pre k).r2 S.cf).newest + 1) / S.fanout ^ (0 + 1) := by
        rw [k8, n1, Int.pow_succ, Int.pow_zero, Int.one_mul, Int.ediv_self (by omega)]
      show (1 : Int) ∈ wantedAt _ _ _ _
      rw [show (1 : Int) ∈ wantedAt ((S.pre k).r2 S.cf).bp2 (((S.pre k).r2 S.cf).newest + 1) (S.fanout ^ (0 + 1)) ((0 : Nat) : Int) ↔ (((S.pre k).r2 S.cf).newest + 1) / S.fanout ^ (0 + 1) ∈ wantedAt ((S.pre k).r2 S.cf).bp2 (((S.pre k).r2 S.cf).newest + 1) (S.fanout ^ (0 + 1)) ((0 : Nat) : Int) by rw [← e1]]
      exact wanted_num
    · rw [c1, k3]
      intro z
      obtain ⟨u1, u2, u3⟩ := i1.nodes.up _ z
      have e1 : (S.pre k).newest / S.fanout ^ ((0 : Int).toNat + 1) = 0 := by
        rw [show (0 : Int).toNat + 1 = 1 from rfl, Int.pow_succ, Int.pow_zero, Int.one_mul]
        exact Int.ediv_eq_zero_of_lt (by omega) (by omega)
      have u3' : (1 : Int) ≤ (S.pre k).newest / S.fanout ^ ((0 : Int).toNat + 1) := u3
      omega
  obtain ⟨_, hm⟩ := r2.mp (r1.mpr ⟨⟨S.fanout.toNat, hk⟩, hin⟩)
  obtain ⟨i, hi, e1, e2, _⟩ := mem_begun.mp hm
  have ei : i = 0 := by
    have : (0 : Int) = (i : Int) := e1
    omega
  subst ei
  have hF : S'.cf.f = S'.fanout := rfl
  rw [hF] at e2
  have hpw : S'.fanout ^ (0 + 1) = S'.fanout := by rw [Int.pow_succ, Int.pow_zero, Int.one_mul]
  have hold := i2.old0
  have hon : (S'.pre k).oldest ≤ (S'.pre k).newest + 1 := by unfold Sto.newest; omega
  have e2' : (1 : Int) ∈ wantedAt ((S'.pre k).r2 S'.cf).bp2 (((S'.pre k).r2 S'.cf).newest + 1) (S'.fanout ^ (0 + 1)) ((0 : Nat) : Int) := e2
  rcases mem_wanted e2' with e3 | e3
  · rw [g8, n2, hpw, Int.ediv_eq_zero_of_lt (by omega) hf] at e3
    omega
  · rw [d2, g1, hpw, Int.ediv_eq_zero_of_lt (by omega) (by omega)] at e3
    omega
theorem partC {S S' : Sett} (h : S.Ok) (h' : S'.Ok) (hk : S.keep < S'.keep) (ha : S.at 1 = S'.at 1) (hb : S.at 1 - 1 + S.keep < 460) : S.evs (S.at 1 - 1 + S.keep).toNat ≠ S'.evs (S.at 1 - 1 + S.keep).toNat := by
  have k1 := h.k1
  have h0 := (Sett.at_bound h 1).1
  generalize hk0 : (S.at 1 - 1 + S.keep).toNat = k
  have hke : (k : Int) = S.at 1 - 1 + S.keep := by omega
  have i1 := pre_inv h (k := k) (by omega)
  have i2 := pre_inv h' (k := k) (by omega)
  have r1 := (row_ev (S.pre k) S.cf rfl).2.2.1
  have r2 := (row_ev (S'.pre k) S'.cf rfl).2.2.1
  rw [← evs_eq] at r1 r2
  intro e
  rw [e] at r1
  have d1 := i1.done
  have d2 := i2.done
  have c1 : S.cf.start 1 = S.at 1 := rfl
  have c1' : S'.cf.start 1 = S'.at 1 := rfl
  have ho : (S.pre k).oldest = 0 := by
    rcases i1.olo with z | z
    · exact z
    · have := cf_lt_of h (p := (S.pre k).oldest) (q := 1) (by omega) (by omega)
      have := i1.old0
      omega
  have hy : (S.pre k).done - S.cf.keep + 1 = S.cf.start ((S.pre k).oldest + 1) := by
    rw [ho, d1]
    show (k : Int) - S.keep + 1 = S.cf.start 1
    omega
  have hz := r2.mp (r1.mpr hy)
  rw [d2] at hz
  have hz' : (k : Int) - S'.keep + 1 = S'.cf.start ((S'.pre k).oldest + 1) := hz
  have := cf_le h' (p := 1) (q := (S'.pre k).oldest + 1) (by omega) (by have := i2.old0; omega)
  omega
theorem partD {S S' : Sett} (h : S.Ok) (h' : S'.Ok) (hk : S.every < S'.every) : S.evs (S.every - 1).toNat ≠ S'.evs (S.every - 1).toNat := by
  have e1 := h.e1
  have e40 := h.e40
  generalize hk0 : (S.every - 1).toNat = k
  have hke : (k : Int) = S.every - 1 := by omega
  have i1 := pre_inv h (k := k) (by omega)
  have i2 := pre_inv h' (k := k) (by omega)
  have r1 := (row_ev (S.pre k) S.cf rfl).2.2.2.1 (log_ne i1)
  have r2 := (row_ev (S'.pre k) S'.cf rfl).2.2.2.1 (log_ne i2)
  rw [← evs_eq] at r1 r2
  intro e
  rw [e] at r1
  have d1 := i1.done
  have d2 := i2.done
  have hy : ((S.pre k).done + 1) % S.cf.every = 0 := by
    rw [d1, hke]
    show (S.every - 1 + 1) % S.every = 0
    rw [Int.sub_add_cancel]
    exact Int.emod_self
  have hz := r2.mp (r1.mpr hy)
  rw [d2, hke] at hz
  have hz' : (S.every - 1 + 1) % S'.every = 0 := hz
  rw [Int.sub_add_cancel, Int.emod_eq_of_lt (by omega) hk] at hz'
  omega
theorem partE {S S' : Sett} (h : S.Ok) (h' : S'.Ok) (he : S.every = S'.every) (h1 : S.recs < S.every) (h2 : S.recs < S'.recs) : S.evs S.recs.toNat ≠ S'.evs S.recs.toNat := by
  have r1' := h.r1
  have r16 := h.r16
  generalize hk0 : S.recs.toNat = k
  have hke : (k : Int) = S.recs := by omega
  have i1 := pre_inv h (k := k) (by omega)
  have i2 := pre_inv h' (k := k) (by omega)
  have r1 := (row_ev (S.pre k) S.cf rfl).1
  have r2 := (row_ev (S'.pre k) S'.cf rfl).1
  rw [← evs_eq] at r1 r2
  intro e
  rw [e] at r1
  have d1 := i1.done
  have d2 := i2.done
  have hy : (S.pre k).done % S.cf.every % S.cf.recs = 0 := by
    rw [d1, hke]
    show S.recs % S.every % S.recs = 0
    rw [Int.emod_eq_of_lt (by omega) h1]
    exact Int.emod_self
  have hz := r2.mp (r1.mpr hy)
  rw [d2, hke] at hz
  have hz' : S.recs % S'.every % S'.recs = 0 := hz
  have q1 : S.recs % S'.every = S.recs := Int.emod_eq_of_lt (by omega) (by omega)
  have q2 : S.recs % S'.recs = S.recs := Int.emod_eq_of_lt (by omega) h2
  rw [q1, q2] at hz'
  omega
theorem least {P : Nat → Prop} : ∀ n : Nat, (∃ r, r < n ∧ P r) → ∃ r, r < n ∧ P r ∧ ∀ j, j < r → ¬ P j
  | 0, ⟨r, h, _⟩ => absurd h (by omega)
  | n + 1, ⟨r, h, hp⟩ => by
    by_cases c : ∃ q, q < n ∧ P q
    · obtain ⟨q, h1, h2, h3⟩ := least n c
      exact ⟨q, by omega, h2, h3⟩
    · have e : r = n := by
        by_cases c2 : r < n
        · exact absurd ⟨r, c2, hp⟩ c
        · omega
      subst e
      exact ⟨r, h, hp, fun j hj hq => c ⟨j, hj, hq⟩⟩
theorem parts_of {S S' : Sett} {n : Nat} (h : ∃ r, r < n ∧ S.evs r ≠ S'.evs r) : ∃ r, r < n ∧ PartsAt S S' r := by
  obtain ⟨r, h1, h2, h3⟩ := least (P := fun r => S.evs r ≠ S'.evs r) n h
  exact ⟨r, h1, fun j hj => Classical.byContradiction fun z => h3 j hj z, h2⟩
theorem period {S : Sett} (h : S.Ok) : ∃ i n : Nat, i < n ∧ n ≤ 6 ∧ S.res n = S.res i := Classical.byContradiction fun hn => by
  have nd : ((List.range 7).map S.res).Nodup := List.pairwise_map.mpr (List.pairwise_lt_range.imp_of_mem fun {a b} ha hb hab e => hn ⟨a, b, hab, by have := List.mem_range.mp hb; omega, e.symm⟩)
  have := pigeon S.lengths.length _ nd fun x hx => by
    obtain ⟨i, _, rfl⟩ := List.mem_map.mp hx
    exact Sett.res_nonneg h i
  have h6 := h.l6
  simp at this
  omega
theorem at_fine {S : Sett} (h : S.Fine) : ∀ p : Nat, S.at p ≤ 8 * p
  | 0 => by show (0 : Int) ≤ _; omega
  | p + 1 => by
    have := at_fine h p
    have := h (S.at p)
    show S.at p + S.rowsFrom (S.at p) ≤ _
    omega
theorem apart_of {S S' : Sett} (h1 : S.Ok) (h2 : S'.Ok) (f1 : S.Fine) (f2 : S'.Fine) (h : ¬ Alike S S') : ∃ r, r < 300 ∧ PartsAt S S' r := by
  refine parts_of ?_
  by_cases ha : ∀ k : Nat, S.at k = S'.at k
  · have b1 := at_fine f1
    by_cases hf : S.fanout = S'.fanout
    · by_cases hk : S.keep = S'.keep
      · by_cases he : S.every = S'.every
        · have hm : mn S.recs S.every ≠ mn S'.recs S'.every := fun z => h ⟨hf, hk, he, z, ha⟩
          have r16 := h1.r16
          have r16' := h2.r16
          have r1 := h1.r1
          have r1' := h2.r1
          rw [← he] at hm
          unfold mn at hm
          by_cases c : S.every < S.recs
          · rw [if_pos c] at hm
            by_cases c' : S.every < S'.recs
            · rw [if_pos c'] at hm; exact absurd rfl hm
            · rw [if_neg c'] at hm
              exact ⟨S'.recs.toNat, by omega, (partE h2 h1 he.symm (by omega) (by omega)).symm⟩
          · rw [if_neg c] at hm
            by_cases c' : S.every < S'.recs
            · rw [if_pos c'] at hm
              exact ⟨S.recs.toNat, by omega, partE h1 h2 he (by omega) (by omega)⟩
            · rw [if_neg c'] at hm
              by_cases c2 : S.recs < S'.recs
              · exact ⟨S.recs.toNat, by omega, partE h1 h2 he (by omega) (by omega)⟩
              · exact ⟨S'.recs.toNat, by omega, (partE h2 h1 he.symm (by omega) (by omega)).symm⟩
        · have e40 := h1.e40
          have e40' := h2.e40
          by_cases c : S.every < S'.every
          · exact ⟨_, by omega, partD h1 h2 c⟩
          · exact ⟨_, by omega, (partD h2 h1 (by omega)).symm⟩
      · have b2 := b1 1
        have b3 := ha 1
        have k100 := h1.k100
        have k100' := h2.k100
        by_cases c : S.keep < S'.keep
        · exact ⟨_, by omega, partC h1 h2 c (ha 1) (by omega)⟩
        · exact ⟨_, by omega, (partC h2 h1 (by omega) (ha 1).symm (by omega)).symm⟩
    · have f8 := h1.f8
      have f8' := h2.f8
      have b2 := b1 S.fanout.toNat
      have b3 := b1 S'.fanout.toNat
      have b4 := ha S'.fanout.toNat
      by_cases c : S.fanout < S'.fanout
      · exact ⟨_, by omega, partB h1 h2 c (ha _) (by omega)⟩
      · exact ⟨_, by omega, (partB h2 h1 (by omega) (ha _).symm (by omega)).symm⟩
  · obtain ⟨i, n, q1, q2, q3⟩ := period h1
    obtain ⟨i', n', q1', q2', q3'⟩ := period h2
    have hex : ∃ p, p < 18 ∧ S.at p ≠ S'.at p := Classical.byContradiction fun z => ha (Sett.at_alike q1 q3 q1' q3' fun k hk => Classical.byContradiction fun y => z ⟨k, by omega, y⟩)
    obtain ⟨p, hp, hne, hl⟩ := least (P := fun p => S.at p ≠ S'.at p) 18 hex
    have hj : ∀ j, j < p → S.at j = S'.at j := fun j hj => Classical.byContradiction fun z => hl j hj z
    have b1 := at_fine f1 p
    have b2 := at_fine f2 p
    by_cases c : S.at p < S'.at p
    · exact ⟨_, by omega, partA h1 h2 hj c (by omega)⟩
    · exact ⟨_, by omega, (partA h2 h1 (fun j q => (hj j q).symm) (by omega) (by omega)).symm⟩
end KR


namespace KR
/-! ### long settings: the row where they part, stated outright -/
theorem lenAt_one {S : Sett} (hl : S.lengths = [1]) (r : Int) : S.lenAt r = 1 := by
  unfold Sett.lenAt
  rw [hl]
  show ([1] : List Int).getD (r % (1 : Int)).toNat 0 = 1
  rw [Int.emod_one]
  rfl
theorem fill_one {S : Sett} (hl : S.lengths = [1]) (row : Int) : ∀ (k : Nat) (f : Int), f ≤ S.size → S.size < f + k → S.fill row k f f = S.size
  | 0, f, h1, h2 => by omega
  | k + 1, f, h1, h2 => by
    unfold Sett.fill
    rw [lenAt_one hl]
    by_cases c : f + 1 ≤ S.size
    · rw [if_pos c]
      exact fill_one hl row k (f + 1) c (by omega)
    · rw [if_neg c]
      omega
theorem long_at {S : Sett} (h : S.Ok) (hl : S.lengths = [1]) : ∀ k : Nat, S.at k = k * S.size
  | 0 => by simp [Sett.at]
  | k + 1 => by
    have s1 := h.size1
    have s64 := h.size
    have e : S.rowsFrom (S.at k) = S.size := fill_one hl _ 65 0 (by omega) (by omega)
    show S.at k + S.rowsFrom (S.at k) = _
    rw [e, long_at h hl k, Int.natCast_succ, Int.add_mul, Int.one_mul]
theorem run_same {S S' : Sett} (h : S.Ok) (h' : S'.Ok) {r : Nat} (hr : r ≤ 460) (hs : ∀ j : Nat, j < r → ∀ s : Sto, InvK S j s → InvK S' j s → s.putRow S.cf = s.putRow S'.cf) : ∀ j, j ≤ r → S.run j = S'.run j
  | 0, _ => rfl
  | j + 1, hj => by
    have ih := run_same h h' hr hs j (by omega)
    have i1 := pre_inv h (k := j) (by omega)
    have i2 := pre_inv h' (k := j) (by omega)
    have e : S.pre j = S'.pre j := by unfold Sett.pre; rw [ih]
    show (S.pre j).putRow S.cf = (S'.pre j).putRow S'.cf
    rw [← e] at i2 ⊢
    exact hs j (by omega) _ i1 i2
theorem parts_at {S S' : Sett} (h : S.Ok) (h' : S'.Ok) {r : Nat} (hr : r ≤ 460) (hs : ∀ j : Nat, j < r → ∀ s : Sto, InvK S j s → InvK S' j s → s.putRow S.cf = s.putRow S'.cf) (hne : S.evs r ≠ S'.evs r) : PartsAt S S' r :=
  ⟨fun j hj => by unfold Sett.evs; rw [run_same h h' hr hs (j + 1) (by omega)], hne⟩
theorem long_s {S : Sett} (h : LongS S) (hs : S.size < 64) : PartsAt S { S with size := S.size + 1 } S.size.toNat := by
  have hS := h.ok
  have s1 := hS.size1
  have hO : ({ S with size := S.size + 1 } : Sett).Ok := { hS with len := fun x hx => (by have := hS.len x hx; show 1 ≤ x ∧ x ≤ S.size + 1; omega), size := by show S.size + 1 ≤ 64; omega }
  have a1 : S.at 1 = S.size := by rw [long_at hS h.l]; omega
  have a1' : ({ S with size := S.size + 1 } : Sett).at 1 = S.size + 1 := by
    rw [long_at hO h.l]
    show ((1 : Nat) : Int) * (S.size + 1) = _
    omega
  have k1 := hS.k1
  have c1 : S.cf.start 1 = S.size := a1
  have c1' : ({ S with size := S.size + 1 } : Sett).cf.start 1 = S.size + 1 := a1'
  refine parts_at hS hO (by omega) (fun j hj s i1 i2 => ?_) ?_
  · have hd := i1.done
    have hn : 0 ≤ s.newest + 1 := by have := i1.old0; unfold Sto.newest; omega
    have ho := i1.old0
    have b1 := cf_le hS (show (0 : Int) ≤ 1 by omega) (show (1 : Int) ≤ s.oldest + 1 by omega)
    have b1' := cf_le hO (show (0 : Int) ≤ 1 by omega) (show (1 : Int) ≤ s.oldest + 1 by omega)
    have hk : S.cf.keep = S.keep := rfl
    have hk' : ({ S with size := S.size + 1 } : Sett).cf.keep = S.keep := rfl
    refine putRow_same rfl ?_ (fun _ => rfl) ?_ (fun _ => rfl) Iff.rfl
    · by_cases c : s.newest + 1 = 0
      · rw [c]; exact Iff.rfl
      · have b2 := cf_le hS (show (0 : Int) ≤ 1 by omega) (show (1 : Int) ≤ s.newest + 1 by omega)
        have b2' := cf_le hO (show (0 : Int) ≤ 1 by omega) (show (1 : Int) ≤ s.newest + 1 by omega)
        exact ⟨fun z => absurd z (by omega), fun z => absurd z (by omega)⟩
    · rw [hk, hk']
      exact ⟨fun z => absurd z (by omega), fun z => absurd z (by omega)⟩
  · have := partA hS hO (p := 1) (fun j hj => by
      have : j = 0 := by omega
      subst this
      rfl) (by omega) (by omega)
    rwa [a1] at this
theorem long_k {S : Sett} (h : LongS S) : PartsAt S { S with keep := S.keep + 1 } (S.size - 1 + S.keep).toNat := by
  have hS := h.ok
  have s1 := hS.size1
  have s64 := hS.size
  have k1 := hS.k1
  have k99 := h.k99
  have hO : ({ S with keep := S.keep + 1 } : Sett).Ok := { hS with k1 := by show 1 ≤ S.keep + 1; omega, k100 := by show S.keep + 1 ≤ 100; omega }
  have a1 : S.at 1 = S.size := by rw [long_at hS h.l]; omega
  have a1' : ({ S with keep := S.keep + 1 } : Sett).at 1 = S.size := by
    rw [long_at hO h.l]
    show ((1 : Nat) : Int) * S.size = _
    omega
  have es : ∀ p : Int, ({ S with keep := S.keep + 1 } : Sett).cf.start p = S.cf.start p := fun p => by
    show ({ S with keep := S.keep + 1 } : Sett).at p.toNat = S.at p.toNat
    rw [long_at hO h.l, long_at hS h.l]
  have c1 : S.cf.start 1 = S.size := a1
  refine parts_at hS hO (by omega) (fun j hj s i1 i2 => ?_) ?_
  · have hd := i1.done
    have ho := i1.old0
    have b1 := cf_le hS (show (0 : Int) ≤ 1 by omega) (show (1 : Int) ≤ s.oldest + 1 by omega)
    have hk : S.cf.keep = S.keep := rfl
    have hk' : ({ S with keep := S.keep + 1 } : Sett).cf.keep = S.keep + 1 := rfl
    refine putRow_same rfl (by rw [es]) (fun _ => rfl) ?_ (fun _ => rfl) Iff.rfl
    rw [hk, hk', es]
    exact ⟨fun z => absurd z (by omega), fun z => absurd z (by omega)⟩
  · have := partC hS hO (by show S.keep < S.keep + 1; omega) (by rw [a1, a1']) (by omega)
    rwa [a1] at this
theorem long_e {S : Sett} (h : LongS S) : PartsAt S { S with every := S.every + 1 } (S.every - 1).toNat := by
  have hS := h.ok
  have e1 := hS.e1
  have e39 := h.e39
  have hO : ({ S with every := S.every + 1 } : Sett).Ok := { hS with e1 := by show 1 ≤ S.every + 1; omega, e40 := by show S.every + 1 ≤ 40; omega }
  have es : ∀ p : Int, ({ S with every := S.every + 1 } : Sett).cf.start p = S.cf.start p := fun p => by
    show ({ S with every := S.every + 1 } : Sett).at p.toNat = S.at p.toNat
    rw [long_at hO h.l, long_at hS h.l]
  refine parts_at hS hO (by omega) (fun j hj s i1 i2 => ?_) (partD hS hO (by show S.every < S.every + 1; omega))
  have hd := i1.done
  have hE : S.cf.every = S.every := rfl
  have hE' : ({ S with every := S.every + 1 } : Sett).cf.every = S.every + 1 := rfl
  have m1 : (j : Int) % S.every = j := Int.emod_eq_of_lt (by omega) (by omega)
  have m2 : (j : Int) % (S.every + 1) = j := Int.emod_eq_of_lt (by omega) (by omega)
  have m3 : ((j : Int) + 1) % S.every = j + 1 := Int.emod_eq_of_lt (by omega) (by omega)
  have m4 : ((j : Int) + 1) % (S.every + 1) = j + 1 := Int.emod_eq_of_lt (by omega) (by omega)
  refine putRow_same (logRow_same ?_ ?_) (by rw [es]) (fun _ => rfl) (by rw [es]; exact Iff.rfl) (fun _ => rfl) ?_
  · rw [hE, hE', hd, m1, m2]
    rfl
  · rw [hE, hE', hd, m1, m2]
    rfl
  · rw [hE, hE', hd, m3, m4]
theorem long_r {S : Sett} (h : LongS S) : PartsAt S { S with recs := S.recs + 1 } S.recs.toNat := by
  have hS := h.ok
  have r1 := hS.r1
  have r15 := h.r15
  have e17 := h.e17
  have hO : ({ S with recs := S.recs + 1 } : Sett).Ok := { hS with r1 := by show 1 ≤ S.recs + 1; omega, r16 := by show S.recs + 1 ≤ 16; omega }
  have es : ∀ p : Int, ({ S with recs := S.recs + 1 } : Sett).cf.start p = S.cf.start p := fun p => by
    show ({ S with recs := S.recs + 1 } : Sett).at p.toNat = S.at p.toNat
    rw [long_at hO h.l, long_at hS h.l]
  refine parts_at hS hO (by omega) (fun j hj s i1 i2 => ?_) (partE hS hO rfl (by omega) (by show S.recs < S.recs + 1; omega))
  have hd := i1.done
  have hE : S.cf.every = S.every := rfl
  have hE' : ({ S with recs := S.recs + 1 } : Sett).cf.every = S.every := rfl
  have hR : S.cf.recs = S.recs := rfl
  have hR' : ({ S with recs := S.recs + 1 } : Sett).cf.recs = S.recs + 1 := rfl
  have m1 : (j : Int) % S.every = j := Int.emod_eq_of_lt (by omega) (by omega)
  have m2 : (j : Int) % S.recs = j := Int.emod_eq_of_lt (by omega) (by omega)
  have m3 : (j : Int) % (S.recs + 1) = j := Int.emod_eq_of_lt (by omega) (by omega)
  have m4 : (j : Int) / S.recs = 0 := Int.ediv_eq_zero_of_lt (by omega) (by omega)
  have m5 : (j : Int) / (S.recs + 1) = 0 := Int.ediv_eq_zero_of_lt (by omega) (by omega)
  refine putRow_same (logRow_same ?_ ?_) (by rw [es]) (fun _ => rfl) (by rw [es]; exact Iff.rfl) (fun _ => rfl) Iff.rfl
  · rw [hE, hE', hR, hR', hd, m1, m2, m3]
  · rw [hE, hE', hR, hR', hd, m1, m4, m5]
theorem rl_zero (f : Int) : ∀ (k : Nat) (l : Int), rl f k 0 0 l = l
  | 0, _ => rfl
  | k + 1, l => by unfold rl; rw [if_pos rfl]
theorem rootLevel_zero {o n f : Int} (h0 : 0 ≤ o) (h1 : o ≤ n) (h2 : n < f) : rootLevel o n f = 0 := by
  unfold rootLevel
  rw [Int.ediv_eq_zero_of_lt h0 (by omega), Int.ediv_eq_zero_of_lt (by omega) h2]
  exact rl_zero f _ 0
theorem changes_same {f f' : Int} : ∀ (l : List (Int × Int)) (M : Sto), (∀ q ∈ l, q.2 / f = q.2 / f') → M.changes f l = M.changes f' l
  | [], _, _ => rfl
  | q :: r, M, h => by
    have ih := changes_same r (M.change (q.1 + 1) (q.2 / f)) fun p hp => h p (List.mem_cons_of_mem _ hp)
    have e := h q List.mem_cons_self
    unfold Sto.changes at ih ⊢
    rw [List.foldl_cons, List.foldl_cons, ih, e]
theorem pow_one' (f : Int) : f ^ (0 + 1) = f := by rw [Int.pow_succ, Int.pow_zero, Int.one_mul]
theorem bpList_zero {M : Sto} {f : Int} (h0 : 0 ≤ M.oldest) (h1 : M.newest + 1 < f) : M.bpLvl f = 0 ∧ M.bpList f = ([0].filter fun n => (lookN M.bp2.nodes ((0 : Int), n)).isNone).map fun n => ((0 : Int), n) := by
  have hon : M.oldest ≤ M.newest + 1 := by unfold Sto.newest; omega
  have hl : M.bpLvl f = 0 := rootLevel_zero h0 hon h1
  refine ⟨hl, ?_⟩
  obtain ⟨c1, c2, c3⟩ := bp2_nodes M
  unfold Sto.bpList
  rw [hl]
  show begun M.bp2 (M.newest + 1) f 1 = _
  unfold begun
  show List.flatMap (begunAt M.bp2 (M.newest + 1) f) [0] = _
  rw [List.flatMap_cons, List.flatMap_nil, List.append_nil]
  unfold begunAt wantedAt
  rw [pow_one', c2, Int.ediv_eq_zero_of_lt h0 (by omega), Int.ediv_eq_zero_of_lt (by omega) h1]
  rw [if_neg (fun z => z.2 rfl)]
  rfl
theorem bp_same {M : Sto} {f f' : Int} (h0 : 0 ≤ M.oldest) (h1 : M.newest + 1 < f) (hff : f ≤ f') : M.beginPage f = M.beginPage f' := by
  obtain ⟨a1, a2⟩ := bpList_zero h0 h1
  obtain ⟨b1, b2⟩ := bpList_zero (f := f') h0 (by omega)
  have hn : 0 ≤ M.newest + 1 := by unfold Sto.newest; omega
  unfold Sto.beginPage
  rw [a1, b1, a2, b2, Int.ediv_eq_zero_of_lt hn h1, Int.ediv_eq_zero_of_lt hn (show M.newest + 1 < f' by omega)]
  refine changes_same _ _ fun q hq => ?_
  obtain ⟨n, hm, rfl⟩ := List.mem_map.mp hq
  have := (List.mem_filter.mp hm).1
  rw [List.mem_singleton] at this
  subst this
  show (0 : Int) / f = 0 / f'
  simp
theorem epList_zero {M : Sto} {f : Int} (h0 : 0 ≤ M.oldest) (hne : M.heap ≠ []) (h1 : M.newest < f) : M.epLvl f = (if M.heap.tail = [] then -1 else 0) ∧ M.epList f = ended1 M.ep2 (if M.heap.tail = [] then -1 else 0) := by
  have hlen : M.heap.length ≠ 0 := fun z => hne (List.length_eq_zero_iff.mp z)
  have hl : M.epLvl f = if M.heap.tail = [] then -1 else 0 := by
    rw [epLvl_eq f hne]
    by_cases c : M.heap.tail = []
    · rw [if_pos c, if_pos c]
    · rw [if_neg c, if_neg c]
      have h2 : M.heap.tail.length ≠ 0 := fun z => c (List.length_eq_zero_iff.mp z)
      rw [List.length_tail] at h2
      exact rootLevel_zero (by omega) (by unfold Sto.newest; omega) h1
  refine ⟨hl, ?_⟩
  unfold Sto.epList
  rw [hl]
  by_cases c : M.heap.tail = []
  · rw [if_pos c]
    show _ ++ ended2 M.oldest (M.oldest + 1) f 0 = _
    simp [ended2]
  · rw [if_neg c]
    have h2 : M.heap.tail.length ≠ 0 := fun z => c (List.length_eq_zero_iff.mp z)
    rw [List.length_tail] at h2
    have ho : M.oldest + 1 < f := by unfold Sto.newest at h1; omega
    show _ ++ ended2 M.oldest (M.oldest + 1) f 1 = _
    have e : ended2 M.oldest (M.oldest + 1) f 1 = [] := by
      unfold ended2
      show List.flatMap (endedAt M.oldest (M.oldest + 1) f) [0] = []
      rw [List.flatMap_cons, List.flatMap_nil, List.append_nil]
      unfold endedAt
      rw [pow_one', Int.ediv_eq_zero_of_lt h0 (by omega), Int.ediv_eq_zero_of_lt (by omega) ho, if_neg (fun z => z rfl)]
    rw [e, List.append_nil]
theorem ep_same {M : Sto} {f f' : Int} (hf : 2 ≤ f) (h0 : 0 ≤ M.oldest) (hne : M.heap ≠ []) (h1 : M.newest < f) (hff : f ≤ f') (hN : NOk f M) : M.endPage f = M.endPage f' := by
  obtain ⟨a1, a2⟩ := epList_zero h0 hne h1
  obtain ⟨b1, b2⟩ := epList_zero (f := f') h0 hne (by omega)
  have hlen : M.heap.length ≠ 0 := fun z => hne (List.length_eq_zero_iff.mp z)
  have hon : M.oldest ≤ M.newest := by unfold Sto.newest; omega
  unfold Sto.endPage
  rw [a1, b1, a2, b2, Int.ediv_eq_zero_of_lt h0 (show M.oldest < f by omega), Int.ediv_eq_zero_of_lt h0 (show M.oldest < f' by omega)]
  refine changes_same _ _ fun q hq => ?_
  have hm : q ∈ keysN M.nodes := (List.mem_filter.mp hq).1
  obtain ⟨u1, u2, u3⟩ := hN.up q hm
  have hp := pow_pos' hf q.1.toNat
  have hpw : f ≤ f ^ (q.1.toNat + 1) := by
    rw [Int.pow_succ]
    have := Int.mul_le_mul_of_nonneg_right (show (1 : Int) ≤ f ^ q.1.toNat by omega) (show 0 ≤ f by omega)
    omega
  rw [Int.ediv_eq_zero_of_lt (by omega) (by omega)] at u3
  have e : q.2 = 0 := by omega
  rw [e]
  simp
theorem long_f {S : Sett} (h : LongS S) : PartsAt S { S with fanout := S.fanout + 1 } (S.size * S.fanout).toNat := by
  have hS := h.ok
  have s1 := hS.size1
  have s64 := hS.size
  have f2 := hS.f2
  have f7 := h.f7
  have hO : ({ S with fanout := S.fanout + 1 } : Sett).Ok := { hS with f2 := by show 2 ≤ S.fanout + 1; omega, f8 := by show S.fanout + 1 ≤ 8; omega }
  have es : ∀ p : Int, ({ S with fanout := S.fanout + 1 } : Sett).cf.start p = S.cf.start p := fun p => by
    show ({ S with fanout := S.fanout + 1 } : Sett).at p.toNat = S.at p.toNat
    rw [long_at hO h.l, long_at hS h.l]
  have hb : S.size * S.fanout ≤ 64 * 7 := Int.mul_le_mul s64 f7 (by omega) (by omega)
  have hb0 : 0 ≤ S.size * S.fanout := Int.mul_nonneg (by omega) (by omega)
  have hfc : ((S.fanout.toNat : Nat) : Int) = S.fanout := by omega
  have ha : S.at S.fanout.toNat = S.size * S.fanout := by rw [long_at hS h.l, hfc, Int.mul_comm]
  have hst : S.cf.start S.fanout = S.size * S.fanout := ha
  have hF : S.cf.f = S.fanout := rfl
  have hF' : ({ S with fanout := S.fanout + 1 } : Sett).cf.f = S.fanout + 1 := rfl
  refine parts_at hS hO (by omega) (fun j hj s i1 i2 => ?_) ?_
  · have hd := i1.done
    have hn : 0 ≤ s.newest + 1 := by have := i1.old0; unfold Sto.newest; omega
    have m := mid_ok hS (show j < 460 by omega) i1
    obtain ⟨k1, k2, k3, k4, k5, k6, k7, k8⟩ := Sto.r2_kept s S.cf
    obtain ⟨j1, j2, j3, j4, j5, j6, j7⟩ := Sto.r5_kept s S.cf
    refine putRow_same rfl (by rw [es]) (fun hc => ?_) (by rw [es]; exact Iff.rfl) (fun _ => ?_) Iff.rfl
    · rw [hF, hF']
      have := cf_lt_of hS (p := s.newest + 1) (q := S.fanout) (by omega) (by omega)
      exact bp_same (by rw [k1]; exact i1.old0) (by rw [k8]; exact this) (by omega)
    · rw [hF, hF']
      have hlo := m.lo
      have := cf_lt_of hS (p := (s.r3 S.cf).newest) (q := S.fanout) (by omega) (by omega)
      exact ep_same f2 (by rw [j2]; exact i1.old0) (by rw [j4]; exact m.heap) (by rw [j1]; exact this) (by omega) (m.nodes.congr j5 (by rw [j2, m.old]) j4 j7)
  · have := partB hS hO (by show S.fanout < S.fanout + 1; omega) (by rw [long_at hO h.l, long_at hS h.l]) (by omega)
    rwa [ha] at this
end KR


namespace KR
open PySem PySem.Spec PyProof.Rows L2
/-! ### lists of ints as data -/
theorem dpall_ints {K : PySem.W.Frag} {H : Hp} : ∀ xs : List Int, DpAll K H (xs.map V.int) (xs.map PyData.int)
  | [] => .nil
  | x :: r => .cons (.int x) (dpall_ints r)
theorem lay_ints : ∀ xs : List Int, PyData.canLayAll0 (xs.map PyData.int) = true
  | [] => rfl
  | x :: r => by
    rw [List.map_cons, PyData.canLayAll0, lay_ints r]
    rfl
theorem depth_ints : ∀ xs : List Int, PyData.depthAll (xs.map PyData.int) = 0
  | [] => rfl
  | x :: r => by
    rw [List.map_cons, PyData.depthAll, depth_ints r]
    rfl
theorem shaped_ints (xs : List Int) : SeqAt.shaped (.list (xs.map PyData.int)) = true := by
  unfold SeqAt.shaped
  rw [PyData.canLay0, lay_ints, PyData.depth, depth_ints]
  rfl
theorem eqv_nil (xs : List Int) : PyData.eqv (.list (xs.map PyData.int)) (.list []) = decide (xs = []) := by
  rw [PyData.eqv]
  cases xs with
  | nil => simp [PyData.eqvAll]
  | cons x r => simp [PyData.eqvAll]
theorem q_neNil {K : PySem.W.Frag} {H : Hp} {Q : VK} {a l : Addr} {xs : List Int} (ha : H a = some (.lst (xs.map V.int))) (hl : H l = some (.lst [])) (k : Q (.bl (!decide (xs = []))) H) : rNeD K (.ref a) (.ref l) H Q :=
  ⟨_, _, .lst (SqL.of ha) (dpall_ints xs), .lst (SqL.of hl) .nil, shaped_ints xs, shaped_ints [], by rw [eqv_nil]; exact k⟩
end KR


namespace K90
open PySem PySem.Spec PyProof.Rows L2 KR
/-! ### settings, packings -/
def setF (t : Addr) (S : Sett) : List (Str × V) := [("lengths", .ref t), ("size", .int S.size), ("fanout", .int S.fanout), ("records", .int S.recs), ("every", .int S.every), ("keep", .int S.keep)]
structure SetAt (K : PySem.W.Frag) (p t : Addr) (S : Sett) (H : Hp) : Prop where
  ob : ∃ dx, H p = some (.ins (He.ga K "Settings") dx (setF t S))
  tp : H t = some (.tup (S.lengths.map V.int))
  ok : S.Ok
theorem setF_lengths {t : Addr} {S : Sett} : (setF t S).lookup ("lengths" : Str) = some (V.ref t) := by kernel_rfl
theorem setF_size {t : Addr} {S : Sett} : (setF t S).lookup ("size" : Str) = some (V.int S.size) := by kernel_rfl
theorem setF_fanout {t : Addr} {S : Sett} : (setF t S).lookup ("fanout" : Str) = some (V.int S.fanout) := by kernel_rfl
theorem setF_records {t : Addr} {S : Sett} : (setF t S).lookup ("records" : Str) = some (V.int S.recs) := by kernel_rfl
theorem setF_every {t : Addr} {S : Sett} : (setF t S).lookup ("every" : Str) = some (V.int S.every) := by kernel_rfl
theorem setF_keep {t : Addr} {S : Sett} : (setF t S).lookup ("keep" : Str) = some (V.int S.keep) := by kernel_rfl
/-- what a Packing has: the starts up to the first one that comes again -/
structure Pk where
  n : Nat
  i : Nat
def packF (t l : Addr) (S : Sett) (q : Pk) : List (Str × V) := [("row_lengths", .ref t), ("room", .int S.size), ("starts", .ref l), ("first", .int q.i), ("pages", .int ((q.n : Int) - q.i)), ("rows", .int (S.at q.n - S.at q.i))]
structure Pk.Ok (S : Sett) (q : Pk) : Prop where
  lt : q.i < q.n
  n6 : q.n ≤ 6
  eq : S.res q.n = S.res q.i
structure PackAt (K : PySem.W.Frag) (p t l : Addr) (S : Sett) (H : Hp) : Prop where
  ob : ∃ dx q, Pk.Ok S q ∧ H p = some (.ins (He.ga K "Packing") dx (packF t l S q)) ∧ H l = some (.lst ((List.range (q.n + 1)).map fun j => V.int (S.at j)))
  tp : H t = some (.tup (S.lengths.map V.int))
  ok : S.Ok
theorem packF_row_lengths {t l : Addr} {S : Sett} {q : Pk} : (packF t l S q).lookup ("row_lengths" : Str) = some (V.ref t) := by kernel_rfl
theorem packF_room {t l : Addr} {S : Sett} {q : Pk} : (packF t l S q).lookup ("room" : Str) = some (V.int S.size) := by kernel_rfl
theorem packF_starts {t l : Addr} {S : Sett} {q : Pk} : (packF t l S q).lookup ("starts" : Str) = some (V.ref l) := by kernel_rfl
theorem packF_first {t l : Addr} {S : Sett} {q : Pk} : (packF t l S q).lookup ("first" : Str) = some (V.int q.i) := by kernel_rfl
theorem packF_pages {t l : Addr} {S : Sett} {q : Pk} : (packF t l S q).lookup ("pages" : Str) = some (V.int ((q.n : Int) - q.i)) := by kernel_rfl
theorem packF_rows {t l : Addr} {S : Sett} {q : Pk} : (packF t l S q).lookup ("rows" : Str) = some (V.int (S.at q.n - S.at q.i)) := by kernel_rfl
theorem packF_no_start {t l : Addr} {S : Sett} {q : Pk} : (packF t l S q).lookup ("start" : Str) = none := by kernel_rfl
theorem packF_no_length {t l : Addr} {S : Sett} {q : Pk} : (packF t l S q).lookup ("length" : Str) = none := by kernel_rfl
theorem packF_no_rows_from {t l : Addr} {S : Sett} {q : Pk} : (packF t l S q).lookup ("rows_from" : Str) = none := by kernel_rfl
/-! ### events -/
def TupKeep (H H' : Hp) : Prop := ∀ b xs, H b = some (.tup xs) → H' b = some (.tup xs)
theorem TupKeep.refl (H : Hp) : TupKeep H H := fun _ _ e => e
theorem TupKeep.trans {H H1 H2 : Hp} (x : TupKeep H H1) (y : TupKeep H1 H2) : TupKeep H H2 := fun b xs e => y b xs (x b xs e)
theorem TupKeep.of_same {H H' : Hp} (s : Same H H') : TupKeep H H' := fun b xs e => s b _ e
def Rl.vs : Role → List V
  | .heap m => [.str "heap", .int m]
  | .node l n => [.str "node", .int l, .int n]
  | .log p => [.str "log", .int p]
def RoleAt (H : Hp) (v : V) (r : Role) : Prop := ∃ b, v = .ref b ∧ H b = some (.tup (Rl.vs r))
theorem RoleAt.keep {H H' : Hp} {v : V} {r : Role} (k : TupKeep H H') (x : RoleAt H v r) : RoleAt H' v r := let ⟨b, e, h⟩ := x; ⟨b, e, k _ _ h⟩
def EvAt (H : Hp) (v : V) : Ev → Prop
  | .take pg r => ∃ b rv, v = .ref b ∧ H b = some (.tup [.str "take", .int pg, rv]) ∧ RoleAt H rv r
  | .give pg r => ∃ b rv, v = .ref b ∧ H b = some (.tup [.str "give", .int pg, rv]) ∧ RoleAt H rv r
  | .record pg n => ∃ b, v = .ref b ∧ H b = some (.tup [.str "record", .int pg, .int n])
  | .put pg n => ∃ b, v = .ref b ∧ H b = some (.tup [.str "put", .int pg, .int n])
  | .write pg => ∃ b, v = .ref b ∧ H b = some (.tup [.str "write", .int pg])
  | .free pg => ∃ b, v = .ref b ∧ H b = some (.tup [.str "free", .int pg])
theorem EvAt.keep {H H' : Hp} {v : V} {e : Ev} (k : TupKeep H H') (x : EvAt H v e) : EvAt H' v e := by
  cases e with
  | take pg r => obtain ⟨b, rv, e1, e2, e3⟩ := x; exact ⟨b, rv, e1, k _ _ e2, e3.keep k⟩
  | give pg r => obtain ⟨b, rv, e1, e2, e3⟩ := x; exact ⟨b, rv, e1, k _ _ e2, e3.keep k⟩
  | record pg n => obtain ⟨b, e1, e2⟩ := x; exact ⟨b, e1, k _ _ e2⟩
  | put pg n => obtain ⟨b, e1, e2⟩ := x; exact ⟨b, e1, k _ _ e2⟩
  | write pg => obtain ⟨b, e1, e2⟩ := x; exact ⟨b, e1, k _ _ e2⟩
  | free pg => obtain ⟨b, e1, e2⟩ := x; exact ⟨b, e1, k _ _ e2⟩
def EvsAt (H : Hp) (vs : List V) (es : List Ev) : Prop := vs.length = es.length ∧ ∀ (i : Nat) (v : V) (e : Ev), vs[i]? = some v → es[i]? = some e → EvAt H v e
theorem EvsAt.nil {H : Hp} : EvsAt H [] [] := ⟨rfl, fun i v e h => by simp at h⟩
theorem EvsAt.keep {H H' : Hp} {vs : List V} {es : List Ev} (k : TupKeep H H') (x : EvsAt H vs es) : EvsAt H' vs es := ⟨x.1, fun i v e h1 h2 => (x.2 i v e h1 h2).keep k⟩
theorem EvsAt.snoc {H : Hp} {vs : List V} {es : List Ev} {v : V} {e : Ev} (x : EvsAt H vs es) (y : EvAt H v e) : EvsAt H (vs ++ [v]) (es ++ [e]) := by
  refine ⟨by simp [x.1], fun i u d h1 h2 => ?_⟩
  by_cases hi : i < vs.length
  · rw [List.getElem?_append_left hi] at h1
    rw [List.getElem?_append_left (by rw [← x.1]; exact hi)] at h2
    exact x.2 i u d h1 h2
  · by_cases hj : i = vs.length
    · subst hj
      rw [List.getElem?_concat_length] at h1
      rw [x.1, List.getElem?_concat_length] at h2
      cases h1; cases h2
      exact y
    · have h3 := (List.getElem?_eq_some_iff.mp h1).1
      simp at h3
      omega
/-! ### dicts -/
def nodesV (l : List ((Int × Int) × Int)) : List (List Key × V) := l.map fun e => ([.inl e.1.1, .inl e.1.2], .int e.2)
def chV (l : List Int) : List (Key × V) := l.map fun x => (.inl x, .bl true)
/-! ### a store -/
structure SA where
  dx : Addr
  p : Addr
  lh : Addr
  ll : Addr
  lw : Addr
  lf : Addr
  le : Addr
  dn : Addr
  dc : Addr
  ps : Addr
  ts : Addr
  pp : Addr
  ls : Addr
def SA.foot (a : SA) : List Addr := [a.p, a.lh, a.ll, a.lw, a.lf, a.le, a.dn, a.dc]
def SA.supp (a : SA) : List Addr := [a.ps, a.ts, a.pp, a.ls]
def SA.dom (a : SA) : List Addr := [a.p, a.lh, a.ll, a.lw, a.lf, a.le, a.dn, a.dc, a.ps, a.ts, a.pp, a.ls]
theorem SA.dom_eq (a : SA) : a.dom = a.foot ++ a.supp := rfl
def stF (a : SA) (M : Sto) : List (Str × V) := [("settings", .ref a.ps), ("packing", .ref a.pp), ("done", .int M.done), ("oldest", .int M.oldest), ("heap", .ref a.lh), ("node_places", .ref a.dn), ("top_level", .int M.top), ("log", .ref a.ll), ("waiting", .ref a.lw), ("changed", .ref a.dc), ("free_row", .ref a.lf), ("taken_count", .int M.taken), ("events", .ref a.le)]
theorem stF_settings {a : SA} {M : Sto} : (stF a M).lookup ("settings" : Str) = some (V.ref a.ps) := by kernel_rfl
theorem stF_packing {a : SA} {M : Sto} : (stF a M).lookup ("packing" : Str) = some (V.ref a.pp) := by kernel_rfl
theorem stF_done {a : SA} {M : Sto} : (stF a M).lookup ("done" : Str) = some (V.int M.done) := by kernel_rfl
theorem stF_oldest {a : SA} {M : Sto} : (stF a M).lookup ("oldest" : Str) = some (V.int M.oldest) := by kernel_rfl
theorem stF_heap {a : SA} {M : Sto} : (stF a M).lookup ("heap" : Str) = some (V.ref a.lh) := by kernel_rfl
theorem stF_node_places {a : SA} {M : Sto} : (stF a M).lookup ("node_places" : Str) = some (V.ref a.dn) := by kernel_rfl
theorem stF_top_level {a : SA} {M : Sto} : (stF a M).lookup ("top_level" : Str) = some (V.int M.top) := by kernel_rfl
theorem stF_log {a : SA} {M : Sto} : (stF a M).lookup ("log" : Str) = some (V.ref a.ll) := by kernel_rfl
theorem stF_waiting {a : SA} {M : Sto} : (stF a M).lookup ("waiting" : Str) = some (V.ref a.lw) := by kernel_rfl
theorem stF_changed {a : SA} {M : Sto} : (stF a M).lookup ("changed" : Str) = some (V.ref a.dc) := by kernel_rfl
theorem stF_free_row {a : SA} {M : Sto} : (stF a M).lookup ("free_row" : Str) = some (V.ref a.lf) := by kernel_rfl
theorem stF_taken_count {a : SA} {M : Sto} : (stF a M).lookup ("taken_count" : Str) = some (V.int M.taken) := by kernel_rfl
theorem stF_events {a : SA} {M : Sto} : (stF a M).lookup ("events" : Str) = some (V.ref a.le) := by kernel_rfl
theorem stF_no_take {a : SA} {M : Sto} : (stF a M).lookup ("take" : Str) = none := by kernel_rfl
theorem stF_no_give {a : SA} {M : Sto} : (stF a M).lookup ("give" : Str) = none := by kernel_rfl
theorem stF_no_newest {a : SA} {M : Sto} : (stF a M).lookup ("newest" : Str) = none := by kernel_rfl
theorem stF_no_change {a : SA} {M : Sto} : (stF a M).lookup ("change" : Str) = none := by kernel_rfl
theorem stF_no_begin_page {a : SA} {M : Sto} : (stF a M).lookup ("begin_page" : Str) = none := by kernel_rfl
theorem stF_no_end_page {a : SA} {M : Sto} : (stF a M).lookup ("end_page" : Str) = none := by kernel_rfl
theorem stF_no_checkpoint {a : SA} {M : Sto} : (stF a M).lookup ("checkpoint" : Str) = none := by kernel_rfl
theorem stF_no_put_row {a : SA} {M : Sto} : (stF a M).lookup ("put_row" : Str) = none := by kernel_rfl
theorem stF_no_note {a : SA} {M : Sto} : (stF a M).lookup ("note" : Str) = none := by kernel_rfl
theorem stF_no_step {a : SA} {M : Sto} : (stF a M).lookup ("step" : Str) = none := by kernel_rfl
theorem stF_no_make {a : SA} {M : Sto} : (stF a M).lookup ("make" : Str) = none := by kernel_rfl
theorem stF_no_start {a : SA} {M : Sto} : (stF a M).lookup ("start" : Str) = none := by kernel_rfl
theorem stF_no_length {a : SA} {M : Sto} : (stF a M).lookup ("length" : Str) = none := by kernel_rfl
theorem stF_no_rows_from {a : SA} {M : Sto} : (stF a M).lookup ("rows_from" : Str) = none := by kernel_rfl
structure StoreAt (K : PySem.W.Frag) (a : SA) (S : Sett) (M : Sto) (H : Hp) : Prop where
  ob : H a.p = some (.ins (He.ga K "Store") a.dx (stF a M))
  heap : H a.lh = some (.lst (M.heap.map V.int))
  log : H a.ll = some (.lst (M.log.map V.int))
  waiting : H a.lw = some (.lst (M.waiting.map V.int))
  free : H a.lf = some (.lst (M.free.map V.int))
  ev : ∃ vs, H a.le = some (.lst vs) ∧ EvsAt H vs M.ev
  nodes : H a.dn = some (.dT (nodesV M.nodes))
  changed : H a.dc = some (.dK (chV M.changed))
  set : SetAt K a.ps a.ts S H
  pack : PackAt K a.pp a.ts a.ls S H
  nd : a.dom.Nodup
/-- what a store's own work leaves: all else as it was; its new parts were free -/
structure Mv (a : SA) (H : Hp) (a' : SA) (H' : Hp) : Prop where
  keep : ∀ b o, H b = some o → b ∉ a.foot → H' b = some o
  ext : ∀ b, b ∈ a'.foot → b ∈ a.foot ∨ H b = none
  tups : TupKeep H H'
  p : a'.p = a.p
  supp : a'.supp = a.supp
theorem Mv.refl (a : SA) (H : Hp) : Mv a H a H := ⟨fun _ _ e _ => e, fun _ h => .inl h, .refl _, rfl, rfl⟩
theorem Mv.trans {a a1 a2 : SA} {H H1 H2 : Hp} (x : Mv a H a1 H1) (y : Mv a1 H1 a2 H2) : Mv a H a2 H2 := by
  refine ⟨fun b o e n => y.keep b o (x.keep b o e n) fun m => ?_, fun b m => ?_, x.tups.trans y.tups, y.p.trans x.p, y.supp.trans x.supp⟩
  · rcases x.ext b m with z | z
    · exact n z
    · rw [e] at z; cases z
  · rcases y.ext b m with z | z
    · exact x.ext b z
    · by_cases hb : b ∈ a.foot
      · exact .inl hb
      · right
        cases q : H b with
        | none => rfl
        | some o =>
          have h2 := x.keep b o q hb
          rw [h2] at z
          cases z
/-- something new was made: nothing else changed -/
theorem Mv.same {a : SA} {H H' : Hp} (s : Same H H') : Mv a H a H' := ⟨fun b o e _ => s b o e, fun _ h => .inl h, .of_same s, rfl, rfl⟩
theorem nd_ne {l : List Addr} (h : l.Nodup) {x y : Addr} (i j : Nat) (hi : l[i]? = some x) (hj : l[j]? = some y) (hij : i ≠ j) : x ≠ y := fun e => hij (nd_ix h hi (e ▸ hj))
section
variable {K : PySem.W.Frag} {a : SA} {S : Sett} {M : Sto} {H : Hp}
theorem SetAt.of {p t : Addr} {H' : Hp} (x : SetAt K p t S H) (h1 : ∀ o, H p = some o → H' p = some o) (h2 : ∀ o, H t = some o → H' t = some o) : SetAt K p t S H' :=
  let ⟨dx, e⟩ := x.ob
  ⟨⟨dx, h1 _ e⟩, h2 _ x.tp, x.ok⟩
theorem PackAt.of {p t l : Addr} {H' : Hp} (x : PackAt K p t l S H) (h1 : ∀ o, H p = some o → H' p = some o) (h2 : ∀ o, H t = some o → H' t = some o) (h3 : ∀ o, H l = some o → H' l = some o) : PackAt K p t l S H' :=
  let ⟨dx, q, k, e1, e2⟩ := x.ob
  ⟨⟨dx, q, k, h1 _ e1, h3 _ e2⟩, h2 _ x.tp, x.ok⟩
theorem StoreAt.same {H' : Hp} (h : StoreAt K a S M H) (s : Same H H') : StoreAt K a S M H' :=
  let ⟨vs, e1, e2⟩ := h.ev
  ⟨s _ _ h.ob, s _ _ h.heap, s _ _ h.log, s _ _ h.waiting, s _ _ h.free, ⟨vs, s _ _ e1, e2.keep (.of_same s)⟩, s _ _ h.nodes, s _ _ h.changed, h.set.of (s _) (s _), h.pack.of (s _) (s _) (s _), h.nd⟩
theorem StoreAt.alloc (h : StoreAt K a S M H) : ∀ b ∈ a.dom, ∃ o, H b = some o := by
  obtain ⟨vs, e1, _⟩ := h.ev
  obtain ⟨d1, s1⟩ := h.set.ob
  obtain ⟨d2, q, _, s2, s3⟩ := h.pack.ob
  intro b hb
  simp only [SA.dom, List.mem_cons, List.not_mem_nil, or_false] at hb
  rcases hb with rfl | rfl | rfl | rfl | rfl | rfl | rfl | rfl | rfl | rfl | rfl | rfl
  · exact ⟨_, h.ob⟩
  · exact ⟨_, h.heap⟩
  · exact ⟨_, h.log⟩
  · exact ⟨_, h.waiting⟩
  · exact ⟨_, h.free⟩
  · exact ⟨_, e1⟩
  · exact ⟨_, h.nodes⟩
  · exact ⟨_, h.changed⟩
  · exact ⟨_, s1⟩
  · exact ⟨_, h.set.tp⟩
  · exact ⟨_, s2⟩
  · exact ⟨_, s3⟩
/-- no tuple is in the footprint -/
theorem StoreAt.notup (h : StoreAt K a S M H) : ∀ b ∈ a.foot, ∀ xs, H b ≠ some (.tup xs) := by
  obtain ⟨vs, e1, _⟩ := h.ev
  intro b hb xs e
  simp only [SA.foot, List.mem_cons, List.not_mem_nil, or_false] at hb
  rcases hb with rfl | rfl | rfl | rfl | rfl | rfl | rfl | rfl
  · rw [h.ob] at e; cases e
  · rw [h.heap] at e; cases e
  · rw [h.log] at e; cases e
  · rw [h.waiting] at e; cases e
  · rw [h.free] at e; cases e
  · rw [e1] at e; cases e
  · rw [h.nodes] at e; cases e
  · rw [h.changed] at e; cases e
theorem StoreAt.fresh (h : StoreAt K a S M H) {l : Addr} (n : H l = none) : l ∉ a.dom := fun m => by
  obtain ⟨o, e⟩ := h.alloc l m
  rw [n] at e; cases e
/-- a cell of the footprint is written -/
theorem StoreAt.mv_upd (h : StoreAt K a S M H) {x : Addr} (hx : x ∈ a.foot) (o : HO) : Mv a H a (upd H x o) := by
  refine ⟨fun b u e n => ?_, fun _ m => .inl m, fun b xs e => ?_, rfl, rfl⟩
  · rw [upd_ne (fun q : b = x => n (by rw [q]; exact hx))]; exact e
  · rw [upd_ne (fun q : b = x => h.notup b (by rw [q]; exact hx) xs e)]; exact e
theorem StoreAt.set_heap (h : StoreAt K a S M H) (xs : List Int) : StoreAt K a S { M with heap := xs } (upd H a.lh (.lst (xs.map V.int))) ∧ Mv a H a (upd H a.lh (.lst (xs.map V.int))) := ⟨⟨(Eq.trans (upd_ne (nd_ne h.nd 0 1 rfl rfl (by decide))) h.ob), upd_same, (Eq.trans (upd_ne (nd_ne h.nd 2 1 rfl rfl (by decide))) h.log), (Eq.trans (upd_ne (nd_ne h.nd 3 1 rfl rfl (by decide))) h.waiting), (Eq.trans (upd_ne (nd_ne h.nd 4 1 rfl rfl (by decide))) h.free), (let ⟨vs, e1, e2⟩ := h.ev; ⟨vs, Eq.trans (upd_ne (nd_ne h.nd 5 1 rfl rfl (by decide))) e1, e2.keep (h.mv_upd (by simp [SA.foot]) _).tups⟩), (Eq.trans (upd_ne (nd_ne h.nd 6 1 rfl rfl (by decide))) h.nodes), (Eq.trans (upd_ne (nd_ne h.nd 7 1 rfl rfl (by decide))) h.changed), (h.set.of (fun o e => Eq.trans (upd_ne (nd_ne h.nd 8 1 rfl rfl (by decide))) e) (fun o e => Eq.trans (upd_ne (nd_ne h.nd 9 1 rfl rfl (by decide))) e)), (h.pack.of (fun o e => Eq.trans (upd_ne (nd_ne h.nd 10 1 rfl rfl (by decide))) e) (fun o e => Eq.trans (upd_ne (nd_ne h.nd 9 1 rfl rfl (by decide))) e) (fun o e => Eq.trans (upd_ne (nd_ne h.nd 11 1 rfl rfl (by decide))) e)), h.nd⟩, h.mv_upd (by simp [SA.foot]) _⟩
theorem StoreAt.set_log (h : StoreAt K a S M H) (xs : List Int) : StoreAt K a S { M with log := xs } (upd H a.ll (.lst (xs.map V.int))) ∧ Mv a H a (upd H a.ll (.lst (xs.map V.int))) := ⟨⟨(Eq.trans (upd_ne (nd_ne h.nd 0 2 rfl rfl (by decide))) h.ob), (Eq.trans (upd_ne (nd_ne h.nd 1 2 rfl rfl (by decide))) h.heap), upd_same, (Eq.trans (upd_ne (nd_ne h.nd 3 2 rfl rfl (by decide))) h.waiting), (Eq.trans (upd_ne (nd_ne h.nd 4 2 rfl rfl (by decide))) h.free), (let ⟨vs, e1, e2⟩ := h.ev; ⟨vs, Eq.trans (upd_ne (nd_ne h.nd 5 2 rfl rfl (by decide))) e1, e2.keep (h.mv_upd (by simp [SA.foot]) _).tups⟩), (Eq.trans (upd_ne (nd_ne h.nd 6 2 rfl rfl (by decide))) h.nodes), (Eq.trans (upd_ne (nd_ne h.nd 7 2 rfl rfl (by decide))) h.changed), (h.set.of (fun o e => Eq.trans (upd_ne (nd_ne h.nd 8 2 rfl rfl (by decide))) e) (fun o e => Eq.trans (upd_ne (nd_ne h.nd 9 2 rfl rfl (by decide))) e)), (h.pack.of (fun o e => Eq.trans (upd_ne (nd_ne h.nd 10 2 rfl rfl (by decide))) e) (fun o e => Eq.trans (upd_ne (nd_ne h.nd 9 2 rfl rfl (by decide))) e) (fun o e => Eq.trans (upd_ne (nd_ne h.nd 11 2 rfl rfl (by decide))) e)), h.nd⟩, h.mv_upd (by simp [SA.foot]) _⟩
theorem StoreAt.set_waiting (h : StoreAt K a S M H) (xs : List Int) : StoreAt K a S { M with waiting := xs } (upd H a.lw (.lst (xs.map V.int))) ∧ Mv a H a (upd H a.lw (.lst (xs.map V.int))) := ⟨⟨(Eq.trans (upd_ne (nd_ne h.nd 0 3 rfl rfl (by decide))) h.ob), (Eq.trans (upd_ne (nd_ne h.nd 1 3 rfl rfl (by decide))) h.heap), (Eq.trans (upd_ne (nd_ne h.nd 2 3 rfl rfl (by decide))) h.log), upd_same, (Eq.trans (upd_ne (nd_ne h.nd 4 3 rfl rfl (by decide))) h.free), (let ⟨vs, e1, e2⟩ := h.ev; ⟨vs, Eq.trans (upd_ne (nd_ne h.nd 5 3 rfl rfl (by decide))) e1, e2.keep (h.mv_upd (by simp [SA.foot]) _).tups⟩), (Eq.trans (upd_ne (nd_ne h.nd 6 3 rfl rfl (by decide))) h.nodes), (Eq.trans (upd_ne (nd_ne h.nd 7 3 rfl rfl (by decide))) h.changed), (h.set.of (fun o e => Eq.trans (upd_ne (nd_ne h.nd 8 3 rfl rfl (by decide))) e) (fun o e => Eq.trans (upd_ne (nd_ne h.nd 9 3 rfl rfl (by decide))) e)), (h.pack.of (fun o e => Eq.trans (upd_ne (nd_ne h.nd 10 3 rfl rfl (by decide))) e) (fun o e => Eq.trans (upd_ne (nd_ne h.nd 9 3 rfl rfl (by decide))) e) (fun o e => Eq.trans (upd_ne (nd_ne h.nd 11 3 rfl rfl (by decide))) e)), h.nd⟩, h.mv_upd (by simp [SA.foot]) _⟩
theorem StoreAt.set_free (h : StoreAt K a S M H) (xs : List Int) : StoreAt K a S { M with free := xs } (upd H a.lf (.lst (xs.map V.int))) ∧ Mv a H a (upd H a.lf (.lst (xs.map V.int))) := ⟨⟨(Eq.trans (upd_ne (nd_ne h.nd 0 4 rfl rfl (by decide))) h.ob), (Eq.trans (upd_ne (nd_ne h.nd 1 4 rfl rfl (by decide))) h.heap), (Eq.trans (upd_ne (nd_ne h.nd 2 4 rfl rfl (by decide))) h.log), (Eq.trans (upd_ne (nd_ne h.nd 3 4 rfl rfl (by decide))) h.waiting), upd_same, (let ⟨vs, e1, e2⟩ := h.ev; ⟨vs, Eq.trans (upd_ne (nd_ne h.nd 5 4 rfl rfl (by decide))) e1, e2.keep (h.mv_upd (by simp [SA.foot]) _).tups⟩), (Eq.trans (upd_ne (nd_ne h.nd 6 4 rfl rfl (by decide))) h.nodes), (Eq.trans (upd_ne (nd_ne h.nd 7 4 rfl rfl (by decide))) h.changed), (h.set.of (fun o e => Eq.trans (upd_ne (nd_ne h.nd 8 4 rfl rfl (by decide))) e) (fun o e => Eq.trans (upd_ne (nd_ne h.nd 9 4 rfl rfl (by decide))) e)), (h.pack.of (fun o e => Eq.trans (upd_ne (nd_ne h.nd 10 4 rfl rfl (by decide))) e) (fun o e => Eq.trans (upd_ne (nd_ne h.nd 9 4 rfl rfl (by decide))) e) (fun o e => Eq.trans (upd_ne (nd_ne h.nd 11 4 rfl rfl (by decide))) e)), h.nd⟩, h.mv_upd (by simp [SA.foot]) _⟩
theorem StoreAt.set_nodes (h : StoreAt K a S M H) (xs : List ((Int × Int) × Int)) : StoreAt K a S { M with nodes := xs } (upd H a.dn (.dT (nodesV xs))) ∧ Mv a H a (upd H a.dn (.dT (nodesV xs))) := ⟨⟨(Eq.trans (upd_ne (nd_ne h.nd 0 6 rfl rfl (by decide))) h.ob), (Eq.trans (upd_ne (nd_ne h.nd 1 6 rfl rfl (by decide))) h.heap), (Eq.trans (upd_ne (nd_ne h.nd 2 6 rfl rfl (by decide))) h.log), (Eq.trans (upd_ne (nd_ne h.nd 3 6 rfl rfl (by decide))) h.waiting), (Eq.trans (upd_ne (nd_ne h.nd 4 6 rfl rfl (by decide))) h.free), (let ⟨vs, e1, e2⟩ := h.ev; ⟨vs, Eq.trans (upd_ne (nd_ne h.nd 5 6 rfl rfl (by decide))) e1, e2.keep (h.mv_upd (by simp [SA.foot]) _).tups⟩), upd_same, (Eq.trans (upd_ne (nd_ne h.nd 7 6 rfl rfl (by decide))) h.changed), (h.set.of (fun o e => Eq.trans (upd_ne (nd_ne h.nd 8 6 rfl rfl (by decide))) e) (fun o e => Eq.trans (upd_ne (nd_ne h.nd 9 6 rfl rfl (by decide))) e)), (h.pack.of (fun o e => Eq.trans (upd_ne (nd_ne h.nd 10 6 rfl rfl (by decide))) e) (fun o e => Eq.trans (upd_ne (nd_ne h.nd 9 6 rfl rfl (by decide))) e) (fun o e => Eq.trans (upd_ne (nd_ne h.nd 11 6 rfl rfl (by decide))) e)), h.nd⟩, h.mv_upd (by simp [SA.foot]) _⟩
theorem StoreAt.set_changed (h : StoreAt K a S M H) (xs : List Int) : StoreAt K a S { M with changed := xs } (upd H a.dc (.dK (chV xs))) ∧ Mv a H a (upd H a.dc (.dK (chV xs))) := ⟨⟨(Eq.trans (upd_ne (nd_ne h.nd 0 7 rfl rfl (by decide))) h.ob), (Eq.trans (upd_ne (nd_ne h.nd 1 7 rfl rfl (by decide))) h.heap), (Eq.trans (upd_ne (nd_ne h.nd 2 7 rfl rfl (by decide))) h.log), (Eq.trans (upd_ne (nd_ne h.nd 3 7 rfl rfl (by decide))) h.waiting), (Eq.trans (upd_ne (nd_ne h.nd 4 7 rfl rfl (by decide))) h.free), (let ⟨vs, e1, e2⟩ := h.ev; ⟨vs, Eq.trans (upd_ne (nd_ne h.nd 5 7 rfl rfl (by decide))) e1, e2.keep (h.mv_upd (by simp [SA.foot]) _).tups⟩), (Eq.trans (upd_ne (nd_ne h.nd 6 7 rfl rfl (by decide))) h.nodes), upd_same, (h.set.of (fun o e => Eq.trans (upd_ne (nd_ne h.nd 8 7 rfl rfl (by decide))) e) (fun o e => Eq.trans (upd_ne (nd_ne h.nd 9 7 rfl rfl (by decide))) e)), (h.pack.of (fun o e => Eq.trans (upd_ne (nd_ne h.nd 10 7 rfl rfl (by decide))) e) (fun o e => Eq.trans (upd_ne (nd_ne h.nd 9 7 rfl rfl (by decide))) e) (fun o e => Eq.trans (upd_ne (nd_ne h.nd 11 7 rfl rfl (by decide))) e)), h.nd⟩, h.mv_upd (by simp [SA.foot]) _⟩
theorem StoreAt.set_ev (h : StoreAt K a S M H) (es : List Ev) (ws : List V) (hw : EvsAt H ws es) : StoreAt K a S { M with ev := es } (upd H a.le (.lst ws)) ∧ Mv a H a (upd H a.le (.lst ws)) := ⟨⟨(Eq.trans (upd_ne (nd_ne h.nd 0 5 rfl rfl (by decide))) h.ob), (Eq.trans (upd_ne (nd_ne h.nd 1 5 rfl rfl (by decide))) h.heap), (Eq.trans (upd_ne (nd_ne h.nd 2 5 rfl rfl (by decide))) h.log), (Eq.trans (upd_ne (nd_ne h.nd 3 5 rfl rfl (by decide))) h.waiting), (Eq.trans (upd_ne (nd_ne h.nd 4 5 rfl rfl (by decide))) h.free), ⟨ws, upd_same, hw.keep (h.mv_upd (by simp [SA.foot]) _).tups⟩, (Eq.trans (upd_ne (nd_ne h.nd 6 5 rfl rfl (by decide))) h.nodes), (Eq.trans (upd_ne (nd_ne h.nd 7 5 rfl rfl (by decide))) h.changed), (h.set.of (fun o e => Eq.trans (upd_ne (nd_ne h.nd 8 5 rfl rfl (by decide))) e) (fun o e => Eq.trans (upd_ne (nd_ne h.nd 9 5 rfl rfl (by decide))) e)), (h.pack.of (fun o e => Eq.trans (upd_ne (nd_ne h.nd 10 5 rfl rfl (by decide))) e) (fun o e => Eq.trans (upd_ne (nd_ne h.nd 9 5 rfl rfl (by decide))) e) (fun o e => Eq.trans (upd_ne (nd_ne h.nd 11 5 rfl rfl (by decide))) e)), h.nd⟩, h.mv_upd (by simp [SA.foot]) _⟩
theorem StoreAt.put_done {x : Int} : putF ("done" : Str) (.int x) (stF a M) = stF a { M with done := x } := by kernel_rfl
theorem StoreAt.int_done (h : StoreAt K a S M H) (x : Int) : StoreAt K a S { M with done := x } (upd H a.p (.ins (He.ga K "Store") a.dx (putF "done" (.int x) (stF a M)))) ∧ Mv a H a (upd H a.p (.ins (He.ga K "Store") a.dx (putF "done" (.int x) (stF a M)))) := ⟨⟨(Eq.trans upd_same (congrArg (fun z => some (HO.ins (He.ga K "Store") a.dx z)) StoreAt.put_done)), (Eq.trans (upd_ne (nd_ne h.nd 1 0 rfl rfl (by decide))) h.heap), (Eq.trans (upd_ne (nd_ne h.nd 2 0 rfl rfl (by decide))) h.log), (Eq.trans (upd_ne (nd_ne h.nd 3 0 rfl rfl (by decide))) h.waiting), (Eq.trans (upd_ne (nd_ne h.nd 4 0 rfl rfl (by decide))) h.free), (let ⟨vs, e1, e2⟩ := h.ev; ⟨vs, Eq.trans (upd_ne (nd_ne h.nd 5 0 rfl rfl (by decide))) e1, e2.keep (h.mv_upd (by simp [SA.foot]) _).tups⟩), (Eq.trans (upd_ne (nd_ne h.nd 6 0 rfl rfl (by decide))) h.nodes), (Eq.trans (upd_ne (nd_ne h.nd 7 0 rfl rfl (by decide))) h.changed), (h.set.of (fun o e => Eq.trans (upd_ne (nd_ne h.nd 8 0 rfl rfl (by decide))) e) (fun o e => Eq.trans (upd_ne (nd_ne h.nd 9 0 rfl rfl (by decide))) e)), (h.pack.of (fun o e => Eq.trans (upd_ne (nd_ne h.nd 10 0 rfl rfl (by decide))) e) (fun o e => Eq.trans (upd_ne (nd_ne h.nd 9 0 rfl rfl (by decide))) e) (fun o e => Eq.trans (upd_ne (nd_ne h.nd 11 0 rfl rfl (by decide))) e)), h.nd⟩, h.mv_upd (by simp [SA.foot]) _⟩
theorem StoreAt.put_oldest {x : Int} : putF ("oldest" : Str) (.int x) (stF a M) = stF a { M with oldest := x } := by kernel_rfl
theorem StoreAt.int_oldest (h : StoreAt K a S M H) (x : Int) : StoreAt K a S { M with oldest := x } (upd H a.p (.ins (He.ga K "Store") a.dx (putF "oldest" (.int x) (stF a M)))) ∧ Mv a H a (upd H a.p (.ins (He.ga K "Store") a.dx (putF "oldest" (.int x) (stF a M)))) := ⟨⟨(Eq.trans upd_same (congrArg (fun z => some (HO.ins (He.ga K "Store") a.dx z)) StoreAt.put_oldest)), (Eq.trans (upd_ne (nd_ne h.nd 1 0 rfl rfl (by decide))) h.heap), (Eq.trans (upd_ne (nd_ne h.nd 2 0 rfl rfl (by decide))) h.log), (Eq.trans (upd_ne (nd_ne h.nd 3 0 rfl rfl (by decide))) h.waiting), (Eq.trans (upd_ne (nd_ne h.nd 4 0 rfl rfl (by decide))) h.free), (let ⟨vs, e1, e2⟩ := h.ev; ⟨vs, Eq.trans (upd_ne (nd_ne h.nd 5 0 rfl rfl (by decide))) e1, e2.keep (h.mv_upd (by simp [SA.foot]) _).tups⟩), (Eq.trans (upd_ne (nd_ne h.nd 6 0 rfl rfl (by decide))) h.nodes), (Eq.trans (upd_ne (nd_ne h.nd 7 0 rfl rfl (by decide))) h.changed), (h.set.of (fun o e => Eq.trans (upd_ne (nd_ne h.nd 8 0 rfl rfl (by decide))) e) (fun o e => Eq.trans (upd_ne (nd_ne h.nd 9 0 rfl rfl (by decide))) e)), (h.pack.of (fun o e => Eq.trans (upd_ne (nd_ne h.nd 10 0 rfl rfl (by decide))) e) (fun o e => Eq.trans (upd_ne (nd_ne h.nd 9 0 rfl rfl (by decide))) e) (fun o e => Eq.trans (upd_ne (nd_ne h.nd 11 0 rfl rfl (by decide))) e)), h.nd⟩, h.mv_upd (by simp [SA.foot]) _⟩
theorem StoreAt.put_top {x : Int} : putF ("top_level" : Str) (.int x) (stF a M) = stF a { M with top := x } := by kernel_rfl
theorem StoreAt.int_top (h : StoreAt K a S M H) (x : Int) : StoreAt K a S { M with top := x } (upd H a.p (.ins (He.ga K "Store") a.dx (putF "top_level" (.int x) (stF a M)))) ∧ Mv a H a (upd H a.p (.ins (He.ga K "Store") a.dx (putF "top_level" (.int x) (stF a M)))) := ⟨⟨(Eq.trans upd_same (congrArg (fun z => some (HO.ins (He.ga K "Store") a.dx z)) StoreAt.put_top)), (Eq.trans (upd_ne (nd_ne h.nd 1 0 rfl rfl (by decide))) h.heap), (Eq.trans (upd_ne (nd_ne h.nd 2 0 rfl rfl (by decide))) h.log), (Eq.trans (upd_ne (nd_ne h.nd 3 0 rfl rfl (by decide))) h.waiting), (Eq.trans (upd_ne (nd_ne h.nd 4 0 rfl rfl (by decide))) h.free), (let ⟨vs, e1, e2⟩ := h.ev; ⟨vs, Eq.trans (upd_ne (nd_ne h.nd 5 0 rfl rfl (by decide))) e1, e2.keep (h.mv_upd (by simp [SA.foot]) _).tups⟩), (Eq.trans (upd_ne (nd_ne h.nd 6 0 rfl rfl (by decide))) h.nodes), (Eq.trans (upd_ne (nd_ne h.nd 7 0 rfl rfl (by decide))) h.changed), (h.set.of (fun o e => Eq.trans (upd_ne (nd_ne h.nd 8 0 rfl rfl (by decide))) e) (fun o e => Eq.trans (upd_ne (nd_ne h.nd 9 0 rfl rfl (by decide))) e)), (h.pack.of (fun o e => Eq.trans (upd_ne (nd_ne h.nd 10 0 rfl rfl (by decide))) e) (fun o e => Eq.trans (upd_ne (nd_ne h.nd 9 0 rfl rfl (by decide))) e) (fun o e => Eq.trans (upd_ne (nd_ne h.nd 11 0 rfl rfl (by decide))) e)), h.nd⟩, h.mv_upd (by simp [SA.foot]) _⟩
theorem StoreAt.put_taken {x : Int} : putF ("taken_count" : Str) (.int x) (stF a M) = stF a { M with taken := x } := by kernel_rfl
theorem StoreAt.int_taken (h : StoreAt K a S M H) (x : Int) : StoreAt K a S { M with taken := x } (upd H a.p (.ins (He.ga K "Store") a.dx (putF "taken_count" (.int x) (stF a M)))) ∧ Mv a H a (upd H a.p (.ins (He.ga K "Store") a.dx (putF "taken_count" (.int x) (stF a M)))) := ⟨⟨(Eq.trans upd_same (congrArg (fun z => some (HO.ins (He.ga K "Store") a.dx z)) StoreAt.put_taken)), (Eq.trans (upd_ne (nd_ne h.nd 1 0 rfl rfl (by decide))) h.heap), (Eq.trans (upd_ne (nd_ne h.nd 2 0 rfl rfl (by decide))) h.log), (Eq.trans (upd_ne (nd_ne h.nd 3 0 rfl rfl (by decide))) h.waiting), (Eq.trans (upd_ne (nd_ne h.nd 4 0 rfl rfl (by decide))) h.free), (let ⟨vs, e1, e2⟩ := h.ev; ⟨vs, Eq.trans (upd_ne (nd_ne h.nd 5 0 rfl rfl (by decide))) e1, e2.keep (h.mv_upd (by simp [SA.foot]) _).tups⟩), (Eq.trans (upd_ne (nd_ne h.nd 6 0 rfl rfl (by decide))) h.nodes), (Eq.trans (upd_ne (nd_ne h.nd 7 0 rfl rfl (by decide))) h.changed), (h.set.of (fun o e => Eq.trans (upd_ne (nd_ne h.nd 8 0 rfl rfl (by decide))) e) (fun o e => Eq.trans (upd_ne (nd_ne h.nd 9 0 rfl rfl (by decide))) e)), (h.pack.of (fun o e => Eq.trans (upd_ne (nd_ne h.nd 10 0 rfl rfl (by decide))) e) (fun o e => Eq.trans (upd_ne (nd_ne h.nd 9 0 rfl rfl (by decide))) e) (fun o e => Eq.trans (upd_ne (nd_ne h.nd 11 0 rfl rfl (by decide))) e)), h.nd⟩, h.mv_upd (by simp [SA.foot]) _⟩
theorem StoreAt.putN_log {l : Addr} : putF ("log" : Str) (.ref l) (stF a M) = stF { a with ll := l } { M with log := [] } := by kernel_rfl
theorem StoreAt.new_log (h : StoreAt K a S M H) {l : Addr} (nl : l ∉ a.dom) (hl : H l = some (.lst [])) : StoreAt K { a with ll := l } S { M with log := [] } (upd H a.p (.ins (He.ga K "Store") a.dx (putF "log" (.ref l) (stF a M)))) := by
  have nlp : l ≠ a.p := fun e => nl (by rw [e]; simp [SA.dom])
  have nd2 : ({ a with ll := l } : SA).dom.Nodup := by
    have n0 := h.nd
    simp only [SA.dom, List.mem_cons, List.not_mem_nil, or_false, not_or, List.nodup_cons, List.nodup_nil] at n0 nl ⊢
    simp only [eq_comm] at n0 nl ⊢
    simp_all
  exact ⟨(Eq.trans upd_same (congrArg (fun z => some (HO.ins (He.ga K "Store") a.dx z)) StoreAt.putN_log)), (Eq.trans (upd_ne (nd_ne h.nd 1 0 rfl rfl (by decide))) h.heap), (Eq.trans (upd_ne nlp) hl), (Eq.trans (upd_ne (nd_ne h.nd 3 0 rfl rfl (by decide))) h.waiting), (Eq.trans (upd_ne (nd_ne h.nd 4 0 rfl rfl (by decide))) h.free), (let ⟨vs, e1, e2⟩ := h.ev; ⟨vs, Eq.trans (upd_ne (nd_ne h.nd 5 0 rfl rfl (by decide))) e1, e2.keep (h.mv_upd (by simp [SA.foot]) _).tups⟩), (Eq.trans (upd_ne (nd_ne h.nd 6 0 rfl rfl (by decide))) h.nodes), (Eq.trans (upd_ne (nd_ne h.nd 7 0 rfl rfl (by decide))) h.changed), (h.set.of (fun o e => Eq.trans (upd_ne (nd_ne h.nd 8 0 rfl rfl (by decide))) e) (fun o e => Eq.trans (upd_ne (nd_ne h.nd 9 0 rfl rfl (by decide))) e)), (h.pack.of (fun o e => Eq.trans (upd_ne (nd_ne h.nd 10 0 rfl rfl (by decide))) e) (fun o e => Eq.trans (upd_ne (nd_ne h.nd 9 0 rfl rfl (by decide))) e) (fun o e => Eq.trans (upd_ne (nd_ne h.nd 11 0 rfl rfl (by decide))) e)), nd2⟩
theorem StoreAt.mvn_log (h : StoreAt K a S M H) {l : Addr} {H0 : Hp} (s : Same H0 H) (n : H0 l = none) : Mv a H0 { a with ll := l } (upd H a.p (.ins (He.ga K "Store") a.dx (putF "log" (.ref l) (stF a M)))) := by
  have m := (Mv.same (a := a) s).trans (h.mv_upd (x := a.p) (by simp [SA.foot]) (.ins (He.ga K "Store") a.dx (putF "log" (.ref l) (stF a M))))
  refine ⟨m.keep, fun b hb => ?_, m.tups, rfl, rfl⟩
  simp only [SA.foot, List.mem_cons, List.not_mem_nil, or_false] at hb ⊢
  rcases hb with rfl | rfl | rfl | rfl | rfl | rfl | rfl | rfl <;> simp [n]
theorem StoreAt.putN_waiting {l : Addr} : putF ("waiting" : Str) (.ref l) (stF a M) = stF { a with lw := l } { M with waiting := [] } := by kernel_rfl
theorem StoreAt.new_waiting (h : StoreAt K a S M H) {l : Addr} (nl : l ∉ a.dom) (hl : H l = some (.lst [])) : StoreAt K { a with lw := l } S { M with waiting := [] } (upd H a.p (.ins (He.ga K "Store") a.dx (putF "waiting" (.ref l) (stF a M)))) := by
  have nlp : l ≠ a.p := fun e => nl (by rw [e]; simp [SA.dom])
  have nd2 : ({ a with lw := l } : SA).dom.Nodup := by
    have n0 := h.nd
    simp only [SA.dom, List.mem_cons, List.not_mem_nil, or_false, not_or, List.nodup_cons, List.nodup_nil] at n0 nl ⊢
    simp only [eq_comm] at n0 nl ⊢
    simp_all
  exact ⟨(Eq.trans upd_same (congrArg (fun z => some (HO.ins (He.ga K "Store") a.dx z)) StoreAt.putN_waiting)), (Eq.trans (upd_ne (nd_ne h.nd 1 0 rfl rfl (by decide))) h.heap), (Eq.trans (upd_ne (nd_ne h.nd 2 0 rfl rfl (by decide))) h.log), (Eq.trans (upd_ne nlp) hl), (Eq.trans (upd_ne (nd_ne h.nd 4 0 rfl rfl (by decide))) h.free), (let ⟨vs, e1, e2⟩ := h.ev; ⟨vs, Eq.trans (upd_ne (nd_ne h.nd 5 0 rfl rfl (by decide))) e1, e2.keep (h.mv_upd (by simp [SA.foot]) _).tups⟩), (Eq.trans (upd_ne (nd_ne h.nd 6 0 rfl rfl (by decide))) h.nodes), (Eq.trans (upd_ne (nd_ne h.nd 7 0 rfl rfl (by decide))) h.changed), (h.set.of (fun o e => Eq.trans (upd_ne (nd_ne h.nd 8 0 rfl rfl (by decide))) e) (fun o e => Eq.trans (upd_ne (nd_ne h.nd 9 0 rfl rfl (by decide))) e)), (h.pack.of (fun o e => Eq.trans (upd_ne (nd_ne h.nd 10 0 rfl rfl (by decide))) e) (fun o e => Eq.trans (upd_ne (nd_ne h.nd 9 0 rfl rfl (by decide))) e) (fun o e => Eq.trans (upd_ne (nd_ne h.nd 11 0 rfl rfl (by decide))) e)), nd2⟩
theorem StoreAt.mvn_waiting (h : StoreAt K a S M H) {l : Addr} {H0 : Hp} (s : Same H0 H) (n : H0 l = none) : Mv a H0 { a with lw := l } (upd H a.p (.ins (He.ga K "Store") a.dx (putF "waiting" (.ref l) (stF a M)))) := by
  have m := (Mv.same (a := a) s).trans (h.mv_upd (x := a.p) (by simp [SA.foot]) (.ins (He.ga K "Store") a.dx (putF "waiting" (.ref l) (stF a M))))
  refine ⟨m.keep, fun b hb => ?_, m.tups, rfl, rfl⟩
  simp only [SA.foot, List.mem_cons, List.not_mem_nil, or_false] at hb ⊢
  rcases hb with rfl | rfl | rfl | rfl | rfl | rfl | rfl | rfl <;> simp [n]
theorem StoreAt.putN_changed {l : Addr} : putF ("changed" : Str) (.ref l) (stF a M) = stF { a with dc := l } { M with changed := [] } := by kernel_rfl
theorem StoreAt.new_changed (h : StoreAt K a S M H) {l : Addr} (nl : l ∉ a.dom) (hl : H l = some (.dK [])) : StoreAt K { a with dc := l } S { M with changed := [] } (upd H a.p (.ins (He.ga K "Store") a.dx (putF "changed" (.ref l) (stF a M)))) := by
  have nlp : l ≠ a.p := fun e => nl (by rw [e]; simp [SA.dom])
  have nd2 : ({ a with dc := l } : SA).dom.Nodup := by
    have n0 := h.nd
    simp only [SA.dom, List.mem_cons, List.not_mem_nil, or_false, not_or, List.nodup_cons, List.nodup_nil] at n0 nl ⊢
    simp only [eq_comm] at n0 nl ⊢
    simp_all
  exact ⟨(Eq.trans upd_same (congrArg (fun z => some (HO.ins (He.ga K "Store") a.dx z)) StoreAt.putN_changed)), (Eq.trans (upd_ne (nd_ne h.nd 1 0 rfl rfl (by decide))) h.heap), (Eq.trans (upd_ne (nd_ne h.nd 2 0 rfl rfl (by decide))) h.log), (Eq.trans (upd_ne (nd_ne h.nd 3 0 rfl rfl (by decide))) h.waiting), (Eq.trans (upd_ne (nd_ne h.nd 4 0 rfl rfl (by decide))) h.free), (let ⟨vs, e1, e2⟩ := h.ev; ⟨vs, Eq.trans (upd_ne (nd_ne h.nd 5 0 rfl rfl (by decide))) e1, e2.keep (h.mv_upd (by simp [SA.foot]) _).tups⟩), (Eq.trans (upd_ne (nd_ne h.nd 6 0 rfl rfl (by decide))) h.nodes), (Eq.trans (upd_ne nlp) hl), (h.set.of (fun o e => Eq.trans (upd_ne (nd_ne h.nd 8 0 rfl rfl (by decide))) e) (fun o e => Eq.trans (upd_ne (nd_ne h.nd 9 0 rfl rfl (by decide))) e)), (h.pack.of (fun o e => Eq.trans (upd_ne (nd_ne h.nd 10 0 rfl rfl (by decide))) e) (fun o e => Eq.trans (upd_ne (nd_ne h.nd 9 0 rfl rfl (by decide))) e) (fun o e => Eq.trans (upd_ne (nd_ne h.nd 11 0 rfl rfl (by decide))) e)), nd2⟩
theorem StoreAt.mvn_changed (h : StoreAt K a S M H) {l : Addr} {H0 : Hp} (s : Same H0 H) (n : H0 l = none) : Mv a H0 { a with dc := l } (upd H a.p (.ins (He.ga K "Store") a.dx (putF "changed" (.ref l) (stF a M)))) := by
  have m := (Mv.same (a := a) s).trans (h.mv_upd (x := a.p) (by simp [SA.foot]) (.ins (He.ga K "Store") a.dx (putF "changed" (.ref l) (stF a M))))
  refine ⟨m.keep, fun b hb => ?_, m.tups, rfl, rfl⟩
  simp only [SA.foot, List.mem_cons, List.not_mem_nil, or_false] at hb ⊢
  rcases hb with rfl | rfl | rfl | rfl | rfl | rfl | rfl | rfl <;> simp [n]
theorem StoreAt.putN_ev {l : Addr} : putF ("events" : Str) (.ref l) (stF a M) = stF { a with le := l } { M with ev := [] } := by kernel_rfl
theorem StoreAt.new_ev (h : StoreAt K a S M H) {l : Addr} (nl : l ∉ a.dom) (hl : H l = some (.lst [])) : StoreAt K { a with le := l } S { M with ev := [] } (upd H a.p (.ins (He.ga K "Store") a.dx (putF "events" (.ref l) (stF a M)))) := by
  have nlp : l ≠ a.p := fun e => nl (by rw [e]; simp [SA.dom])
  have nd2 : ({ a with le := l } : SA).dom.Nodup := by
    have n0 := h.nd
    simp only [SA.dom, List.mem_cons, List.not_mem_nil, or_false, not_or, List.nodup_cons, List.nodup_nil] at n0 nl ⊢
    simp only [eq_comm] at n0 nl ⊢
    simp_all
  exact ⟨(Eq.trans upd_same (congrArg (fun z => some (HO.ins (He.ga K "Store") a.dx z)) StoreAt.putN_ev)), (Eq.trans (upd_ne (nd_ne h.nd 1 0 rfl rfl (by decide))) h.heap), (Eq.trans (upd_ne (nd_ne h.nd 2 0 rfl rfl (by decide))) h.log), (Eq.trans (upd_ne (nd_ne h.nd 3 0 rfl rfl (by decide))) h.waiting), (Eq.trans (upd_ne (nd_ne h.nd 4 0 rfl rfl (by decide))) h.free), ⟨[], Eq.trans (upd_ne nlp) hl, EvsAt.nil⟩, (Eq.trans (upd_ne (nd_ne h.nd 6 0 rfl rfl (by decide))) h.nodes), (Eq.trans (upd_ne (nd_ne h.nd 7 0 rfl rfl (by decide))) h.changed), (h.set.of (fun o e => Eq.trans (upd_ne (nd_ne h.nd 8 0 rfl rfl (by decide))) e) (fun o e => Eq.trans (upd_ne (nd_ne h.nd 9 0 rfl rfl (by decide))) e)), (h.pack.of (fun o e => Eq.trans (upd_ne (nd_ne h.nd 10 0 rfl rfl (by decide))) e) (fun o e => Eq.trans (upd_ne (nd_ne h.nd 9 0 rfl rfl (by decide))) e) (fun o e => Eq.trans (upd_ne (nd_ne h.nd 11 0 rfl rfl (by decide))) e)), nd2⟩
theorem StoreAt.mvn_ev (h : StoreAt K a S M H) {l : Addr} {H0 : Hp} (s : Same H0 H) (n : H0 l = none) : Mv a H0 { a with le := l } (upd H a.p (.ins (He.ga K "Store") a.dx (putF "events" (.ref l) (stF a M)))) := by
  have m := (Mv.same (a := a) s).trans (h.mv_upd (x := a.p) (by simp [SA.foot]) (.ins (He.ga K "Store") a.dx (putF "events" (.ref l) (stF a M))))
  refine ⟨m.keep, fun b hb => ?_, m.tups, rfl, rfl⟩
  simp only [SA.foot, List.mem_cons, List.not_mem_nil, or_false] at hb ⊢
  rcases hb with rfl | rfl | rfl | rfl | rfl | rfl | rfl | rfl <;> simp [n]
/-- another thing's work leaves a store as it is, where it stands apart -/
theorem StoreAt.apart {H' : Hp} (h : StoreAt K a S M H) (k : ∀ b o, H b = some o → b ∈ a.dom → H' b = some o) (t : TupKeep H H') : StoreAt K a S M H' :=
  let ⟨vs, e1, e2⟩ := h.ev
  ⟨k _ _ h.ob (by simp [SA.dom]), k _ _ h.heap (by simp [SA.dom]), k _ _ h.log (by simp [SA.dom]), k _ _ h.waiting (by simp [SA.dom]), k _ _ h.free (by simp [SA.dom]), ⟨vs, k _ _ e1 (by simp [SA.dom]), e2.keep t⟩, k _ _ h.nodes (by simp [SA.dom]), k _ _ h.changed (by simp [SA.dom]),
    h.set.of (fun o e => k _ o e (by simp [SA.dom])) (fun o e => k _ o e (by simp [SA.dom])), h.pack.of (fun o e => k _ o e (by simp [SA.dom])) (fun o e => k _ o e (by simp [SA.dom])) (fun o e => k _ o e (by simp [SA.dom])), h.nd⟩
end
end K90


namespace K90
open PySem PySem.Spec PyProof.Rows L2 KR
/-! ### events as data -/
def roleD : Role → PyData
  | .heap m => .tuple [.str "heap", .int m]
  | .node l n => .tuple [.str "node", .int l, .int n]
  | .log p => .tuple [.str "log", .int p]
def evD : Ev → PyData
  | .take pg r => .tuple [.str "take", .int pg, roleD r]
  | .give pg r => .tuple [.str "give", .int pg, roleD r]
  | .record pg n => .tuple [.str "record", .int pg, .int n]
  | .put pg n => .tuple [.str "put", .int pg, .int n]
  | .write pg => .tuple [.str "write", .int pg]
  | .free pg => .tuple [.str "free", .int pg]
theorem RoleAt.dp {K : PySem.W.Frag} {H : Hp} {v : V} : ∀ {r : Role}, RoleAt H v r → Dp K H v (roleD r)
  | .heap m, ⟨b, e, h⟩ => by subst e; exact .tup (SqT.of h) (.cons (.str _) (.cons (.int _) .nil))
  | .node l n, ⟨b, e, h⟩ => by subst e; exact .tup (SqT.of h) (.cons (.str _) (.cons (.int _) (.cons (.int _) .nil)))
  | .log p, ⟨b, e, h⟩ => by subst e; exact .tup (SqT.of h) (.cons (.str _) (.cons (.int _) .nil))
theorem EvAt.dp {K : PySem.W.Frag} {H : Hp} {v : V} : ∀ {e : Ev}, EvAt H v e → Dp K H v (evD e)
  | .take pg r, ⟨b, rv, e, h, hr⟩ => by subst e; exact .tup (SqT.of h) (.cons (.str _) (.cons (.int _) (.cons hr.dp .nil)))
  | .give pg r, ⟨b, rv, e, h, hr⟩ => by subst e; exact .tup (SqT.of h) (.cons (.str _) (.cons (.int _) (.cons hr.dp .nil)))
  | .record pg n, ⟨b, e, h⟩ => by subst e; exact .tup (SqT.of h) (.cons (.str _) (.cons (.int _) (.cons (.int _) .nil)))
  | .put pg n, ⟨b, e, h⟩ => by subst e; exact .tup (SqT.of h) (.cons (.str _) (.cons (.int _) (.cons (.int _) .nil)))
  | .write pg, ⟨b, e, h⟩ => by subst e; exact .tup (SqT.of h) (.cons (.str _) (.cons (.int _) .nil))
  | .free pg, ⟨b, e, h⟩ => by subst e; exact .tup (SqT.of h) (.cons (.str _) (.cons (.int _) .nil))
theorem EvsAt.dp {K : PySem.W.Frag} {H : Hp} : ∀ {vs : List V} {es : List Ev}, EvsAt H vs es → DpAll K H vs (es.map evD)
  | [], [], _ => .nil
  | [], e :: es, h => by have := h.1; simp at this
  | v :: vs, [], h => by have := h.1; simp at this
  | v :: vs, e :: es, h => by
    refine .cons (h.2 0 v e rfl rfl).dp (EvsAt.dp ⟨by have := h.1; simpa using this, fun i u d h1 h2 => h.2 (i + 1) u d (by simpa using h1) (by simpa using h2)⟩)
theorem roleD_lay (r : Role) : (roleD r).canLay0 = true := by
  cases r <;> (simp only [roleD, PyData.canLay0, PyData.canLayAll0, Bool.and_true]; kernel_rfl)
theorem evD_lay (e : Ev) : (evD e).canLay0 = true := by
  cases e <;> (simp only [evD, PyData.canLay0, PyData.canLayAll0, Bool.and_true, roleD_lay]; kernel_rfl)
theorem roleD_depth (r : Role) : (roleD r).depth ≤ 1 := by
  cases r <;> (simp only [roleD, PyData.depth, PyData.depthAll]; decide)
theorem evD_depth (e : Ev) : (evD e).depth ≤ 2 := by
  cases e with
  | take pg r => have := roleD_depth r; simp only [evD, PyData.depth, PyData.depthAll]; omega
  | give pg r => have := roleD_depth r; simp only [evD, PyData.depth, PyData.depthAll]; omega
  | record pg n => simp only [evD, PyData.depth, PyData.depthAll]; decide
  | put pg n => simp only [evD, PyData.depth, PyData.depthAll]; decide
  | write pg => simp only [evD, PyData.depth, PyData.depthAll]; decide
  | free pg => simp only [evD, PyData.depth, PyData.depthAll]; decide
theorem evsD_lay : ∀ es : List Ev, PyData.canLayAll0 (es.map evD) = true
  | [] => rfl
  | e :: r => by rw [List.map_cons, PyData.canLayAll0, evD_lay, evsD_lay r]; rfl
theorem evsD_depth : ∀ es : List Ev, PyData.depthAll (es.map evD) ≤ 2
  | [] => by simp [PyData.depthAll]
  | e :: r => by
    have h1 := evD_depth e
    have h2 := evsD_depth r
    rw [List.map_cons, PyData.depthAll]
    omega
theorem evsD_shaped (es : List Ev) : SeqAt.shaped (.list (es.map evD)) = true := by
  have h1 := evsD_depth es
  show (PyData.canLay0 (.list (es.map evD)) && decide (PyData.depth (.list (es.map evD)) ≤ 64)) = true
  rw [Bool.and_eq_true]
  exact ⟨by simp only [PyData.canLay0]; exact evsD_lay es, decide_eq_true (by simp only [PyData.depth]; omega)⟩
def roleK : Role → Str
  | .heap _ => "heap" | .node _ _ => "node" | .log _ => "log"
def roleN : Role → Nat
  | .heap _ => 0 | .node _ _ => 1 | .log _ => 2
def evK : Ev → Str
  | .take _ _ => "take" | .give _ _ => "give" | .record _ _ => "record" | .put _ _ => "put" | .write _ => "write" | .free _ => "free"
def evN : Ev → Nat
  | .take _ _ => 0 | .give _ _ => 1 | .record _ _ => 2 | .put _ _ => 3 | .write _ => 4 | .free _ => 5
theorem roleK_eq (r s : Role) : (roleK r == roleK s) = decide (roleN r = roleN s) := by
  cases r <;> cases s <;> kernel_rfl
theorem evK_eq (r s : Ev) : (evK r == evK s) = decide (evN r = evN s) := by
  cases r <;> cases s <;> kernel_rfl
theorem beq_dec (a b : Int) : (a == b) = decide (a = b) := by
  by_cases h : a = b <;> simp [h]
theorem roleD_eqv (r s : Role) : PyData.eqv (roleD r) (roleD s) = decide (r = s) := by
  have k := roleK_eq r s
  cases r <;> cases s <;> simp only [roleK, roleN] at k <;> simp only [roleD, PyData.eqv, PyData.eqvAll, k, beq_dec] <;> simp [Bool.decide_and]
theorem evD_form (e : Ev) : ∃ tl, evD e = .tuple (.str (evK e) :: tl) := by cases e <;> exact ⟨_, rfl⟩
theorem evD_eqv (r s : Ev) : PyData.eqv (evD r) (evD s) = decide (r = s) := by
  have k := evK_eq r s
  by_cases h : evN r = evN s
  · cases r <;> cases s <;> first
      | (exfalso; revert h; simp only [evN]; decide)
      | (simp only [evK, evN] at k; simp only [evD, PyData.eqv, PyData.eqvAll, k, beq_dec, roleD_eqv]; simp [Bool.decide_and])
  · have hne : r ≠ s := fun e => h (by rw [e])
    obtain ⟨t1, e1⟩ := evD_form r
    obtain ⟨t2, e2⟩ := evD_form s
    rw [e1, e2, decide_eq_false hne]
    show ((evK r == evK s) && PyData.eqvAll t1 t2) = false
    rw [k, decide_eq_false h, Bool.false_and]
theorem evsD_eqv : ∀ es fs : List Ev, PyData.eqv (.list (es.map evD)) (.list (fs.map evD)) = decide (es = fs)
  | [], [] => by simp [PyData.eqv, PyData.eqvAll]
  | [], f :: fs => by simp [PyData.eqv, PyData.eqvAll]
  | e :: es, [] => by simp [PyData.eqv, PyData.eqvAll]
  | e :: es, f :: fs => by
    have ih := evsD_eqv es fs
    rw [PyData.eqv] at ih ⊢
    rw [List.map_cons, List.map_cons, PyData.eqvAll, ih, evD_eqv]
    simp [Bool.decide_and]
section
variable {K : PySem.W.Frag} {H : Hp} {Q : VK} {a b : Addr} {vs ws : List V} {es fs : List Ev}
theorem q_eqEvs (h1 : H a = some (.lst vs)) (h2 : H b = some (.lst ws)) (e1 : EvsAt H vs es) (e2 : EvsAt H ws fs) (k : Q (.bl (decide (es = fs))) H) : rEqD K (.ref a) (.ref b) H Q :=
  ⟨_, _, .lst (SqL.of h1) e1.dp, .lst (SqL.of h2) e2.dp, evsD_shaped es, evsD_shaped fs, by rw [evsD_eqv]; exact k⟩
theorem q_neEvs (h1 : H a = some (.lst vs)) (h2 : H b = some (.lst ws)) (e1 : EvsAt H vs es) (e2 : EvsAt H ws fs) (k : Q (.bl (!decide (es = fs))) H) : rNeD K (.ref a) (.ref b) H Q :=
  ⟨_, _, .lst (SqL.of h1) e1.dp, .lst (SqL.of h2) e2.dp, evsD_shaped es, evsD_shaped fs, by rw [evsD_eqv]; exact k⟩
end
end K90


namespace K90
open PySem PySem.Spec PyProof.Rows L2 KR
/-! ### dicts as lists -/
theorem putK_chV (l : List Int) (x : Int) : putK (chV l) (.inl x) (.bl true) = chV (putI l x) := by
  unfold putK putI
  have e : ((chV l).any fun kv => decide (kv.1 = (Sum.inl x : Key))) = decide (x ∈ l) := by
    rw [Bool.eq_iff_iff]
    simp [chV]
  rw [e]
  by_cases h : x ∈ l
  · rw [if_pos (by simpa using h), if_pos h]
    unfold chV
    rw [List.map_map]
    refine List.map_congr_left fun y _ => ?_
    show (if (Sum.inl y : Key) = Sum.inl x then _ else _) = _
    split <;> rfl
  · rw [if_neg (by simpa using h), if_neg h]
    unfold chV
    rw [List.map_append]
    rfl
theorem valV_chV (l : List Int) (x : Int) : valV (chV l) (.inl x) = if x ∈ l then some (.bl true) else none := by
  induction l with
  | nil => rfl
  | cons y r ih =>
    by_cases e : y = x
    · subst e
      show valV ((Sum.inl y, V.bl true) :: chV r) (Sum.inl y) = _
      rw [valV_pos rfl]
      simp
    · show valV ((Sum.inl y, V.bl true) :: chV r) (Sum.inl x) = _
      rw [valV_neg (by simpa using e), ih]
      have : (x ∈ y :: r) ↔ x ∈ r := by simp [Ne.symm e]
      simp only [this]
theorem dropK_chV (l : List Int) (x : Int) : dropK (chV l) (.inl x) = chV (l.filter fun y => decide (y ≠ x)) := by
  induction l with
  | nil => rfl
  | cons y r ih =>
    unfold dropK chV at ih ⊢
    rw [List.map_cons, List.filter_cons, List.filter_cons, ih]
    by_cases e : y = x
    · simp [e]
    · simp [e]
def nkey (q : Int × Int) : List Key := [.inl q.1, .inl q.2]
theorem nkey_inj {q r : Int × Int} : nkey q = nkey r ↔ q = r := by
  obtain ⟨a, b⟩ := q
  obtain ⟨c, d⟩ := r
  simp [nkey]
theorem putK_nodes (l : List ((Int × Int) × Int)) (q : Int × Int) (x : Int) : putK (nodesV l) (nkey q) (.int x) = nodesV (putN l q x) := by
  unfold putK putN
  have e : ((nodesV l).any fun kv => decide (kv.1 = nkey q)) = (l.any fun e => decide (e.1 = q)) := by
    unfold nodesV
    rw [List.any_map]
    congr 1
    funext z
    show decide (nkey z.1 = nkey q) = _
    simp only [nkey_inj]
  rw [e]
  split
  · unfold nodesV
    rw [List.map_map, List.map_map]
    refine List.map_congr_left fun z _ => ?_
    show (if nkey z.1 = nkey q then _ else _) = _
    simp only [nkey_inj, Function.comp]
    split <;> rfl
  · unfold nodesV
    rw [List.map_append]
    rfl
theorem valV_nodes (l : List ((Int × Int) × Int)) (q : Int × Int) : valV (nodesV l) (nkey q) = (lookN l q).map V.int := by
  induction l with
  | nil => rfl
  | cons z r ih =>
    unfold lookN at ih ⊢
    by_cases e : z.1 = q
    · show valV ((nkey z.1, V.int z.2) :: nodesV r) (nkey q) = _
      rw [valV_pos (by simpa [nkey_inj] using e)]
      simp [List.find?_cons, e]
    · show valV ((nkey z.1, V.int z.2) :: nodesV r) (nkey q) = _
      rw [valV_neg (by simpa [nkey_inj] using e), ih]
      simp [List.find?_cons, e]
theorem dropK_nodes (l : List ((Int × Int) × Int)) (q : Int × Int) : dropK (nodesV l) (nkey q) = nodesV (l.filter fun e => decide (e.1 ≠ q)) := by
  induction l with
  | nil => rfl
  | cons z r ih =>
    have e0 : nodesV (z :: r) = (nkey z.1, V.int z.2) :: nodesV r := rfl
    rw [e0]
    unfold dropK at ih ⊢
    rw [List.filter_cons, List.filter_cons, ih]
    by_cases e : z.1 = q
    · simp [e]
    · simp [e, nkey_inj]; rfl
theorem map_getLast {l : List Int} (h : l ≠ []) : (l.map V.int)[(l.map V.int).length - 1]? = some (.int (l.getLastD 0)) := by
  rw [List.length_map, List.getElem?_map]
  have : l[l.length - 1]? = some (l.getLastD 0) := by
    rw [List.getLastD_eq_getLast?, ← List.getLast?_eq_getElem?, List.getLast?_eq_some_getLast h]
    rfl
  rw [this]
  rfl
theorem atI_lastD {l : List Int} (h : l ≠ []) : atI (l.map V.int) (-1) = some (.int (l.getLastD 0)) := by
  have e : l = l.dropLast ++ [l.getLastD 0] := by
    rw [List.getLastD_eq_getLast?, List.getLast?_eq_some_getLast h]
    exact (List.dropLast_concat_getLast h).symm
  rw [e, List.map_append]
  have h2 : (List.map V.int (l.dropLast ++ [l.getLastD 0])) = List.map V.int l.dropLast ++ [V.int (l.getLastD 0)] := by simp
  rw [← e]
  show atI (List.map V.int l.dropLast ++ [V.int (l.getLastD 0)]) (-1) = _
  rw [atI_last]
/-! ### a store's parts, read and written -/
section
variable {K : PySem.W.Frag} {a : SA} {S : Sett} {M : Sto} {H : Hp} {Q : VK} {R : Hp → Prop}
theorem SetAt.rd {p t : Addr} {f : Str} {v : V} (x : SetAt K p t S H) (c : Cls K (He.ga K "Settings")) (n : NoAttr K (He.ga K "Settings") f) (l : (setF t S).lookup f = some v) (k : Q v H) : fldK K f (.ref p) H Q :=
  let ⟨_, e⟩ := x.ob
  i_fldK e c n l k
theorem StoreAt.st_done (h : StoreAt K a S M H) {x : Int} (c : Cls K (He.ga K "Store")) (n : NoAttr K (He.ga K "Store") "done") (k : ∀ H', StoreAt K a S { M with done := x } H' → Mv a H a H' → R H') : setK K "done" (.ref a.p) (.int x) H R :=
  let q := h.int_done x
  i_setK h.ob c n (by show 13 < 1000; decide) (k _ q.1 q.2)
theorem StoreAt.fin_done (h : StoreAt K a S M H) {x : Int} (k : ∀ H', StoreAt K a S { M with done := x } H' → Mv a H a H' → R H') : ∃ dx fs, H a.p = some (.ins (He.ga K "Store") dx fs) ∧ fs.length < 1000 ∧ R (upd H a.p (.ins (He.ga K "Store") dx (putF "done" (.int x) fs))) :=
  let q := h.int_done x
  ⟨_, _, h.ob, (by show 13 < 1000; decide), k _ q.1 q.2⟩
theorem StoreAt.st_oldest (h : StoreAt K a S M H) {x : Int} (c : Cls K (He.ga K "Store")) (n : NoAttr K (He.ga K "Store") "oldest") (k : ∀ H', StoreAt K a S { M with oldest := x } H' → Mv a H a H' → R H') : setK K "oldest" (.ref a.p) (.int x) H R :=
  let q := h.int_oldest x
  i_setK h.ob c n (by show 13 < 1000; decide) (k _ q.1 q.2)
theorem StoreAt.fin_oldest (h : StoreAt K a S M H) {x : Int} (k : ∀ H', StoreAt K a S { M with oldest := x } H' → Mv a H a H' → R H') : ∃ dx fs, H a.p = some (.ins (He.ga K "Store") dx fs) ∧ fs.length < 1000 ∧ R (upd H a.p (.ins (He.ga K "Store") dx (putF "oldest" (.int x) fs))) :=
  let q := h.int_oldest x
  ⟨_, _, h.ob, (by show 13 < 1000; decide), k _ q.1 q.2⟩
theorem StoreAt.st_top (h : StoreAt K a S M H) {x : Int} (c : Cls K (He.ga K "Store")) (n : NoAttr K (He.ga K "Store") "top_level") (k : ∀ H', StoreAt K a S { M with top := x } H' → Mv a H a H' → R H') : setK K "top_level" (.ref a.p) (.int x) H R :=
  let q := h.int_top x
  i_setK h.ob c n (by show 13 < 1000; decide) (k _ q.1 q.2)
theorem StoreAt.fin_top (h : StoreAt K a S M H) {x : Int} (k : ∀ H', StoreAt K a S { M with top := x } H' → Mv a H a H' → R H') : ∃ dx fs, H a.p = some (.ins (He.ga K "Store") dx fs) ∧ fs.length < 1000 ∧ R (upd H a.p (.ins (He.ga K "Store") dx (putF "top_level" (.int x) fs))) :=
  let q := h.int_top x
  ⟨_, _, h.ob, (by show 13 < 1000; decide), k _ q.1 q.2⟩
theorem StoreAt.st_taken (h : StoreAt K a S M H) {x : Int} (c : Cls K (He.ga K "Store")) (n : NoAttr K (He.ga K "Store") "taken_count") (k : ∀ H', StoreAt K a S { M with taken := x } H' → Mv a H a H' → R H') : setK K "taken_count" (.ref a.p) (.int x) H R :=
  let q := h.int_taken x
  i_setK h.ob c n (by show 13 < 1000; decide) (k _ q.1 q.2)
theorem StoreAt.fin_taken (h : StoreAt K a S M H) {x : Int} (k : ∀ H', StoreAt K a S { M with taken := x } H' → Mv a H a H' → R H') : ∃ dx fs, H a.p = some (.ins (He.ga K "Store") dx fs) ∧ fs.length < 1000 ∧ R (upd H a.p (.ins (He.ga K "Store") dx (putF "taken_count" (.int x) fs))) :=
  let q := h.int_taken x
  ⟨_, _, h.ob, (by show 13 < 1000; decide), k _ q.1 q.2⟩
theorem StoreAt.app_heap (h : StoreAt K a S M H) {x : Int} (z : M.heap.length < sizeLine) (k : ∀ H', StoreAt K a S { M with heap := M.heap ++ [x] } H' → Mv a H a H' → Q .non H') : rAppend (.ref a.lh) [.int x] H Q := by
  have q := h.set_heap (M.heap ++ [x])
  refine ⟨a.lh, _, .int x, rfl, rfl, h.heap, by rw [List.length_map]; exact z, ?_⟩
  have e : M.heap.map V.int ++ [V.int x] = (M.heap ++ [x]).map V.int := by rw [List.map_append]; rfl
  rw [e]
  exact k _ q.1 q.2
theorem StoreAt.app_log (h : StoreAt K a S M H) {x : Int} (z : M.log.length < sizeLine) (k : ∀ H', StoreAt K a S { M with log := M.log ++ [x] } H' → Mv a H a H' → Q .non H') : rAppend (.ref a.ll) [.int x] H Q := by
  have q := h.set_log (M.log ++ [x])
  refine ⟨a.ll, _, .int x, rfl, rfl, h.log, by rw [List.length_map]; exact z, ?_⟩
  have e : M.log.map V.int ++ [V.int x] = (M.log ++ [x]).map V.int := by rw [List.map_append]; rfl
  rw [e]
  exact k _ q.1 q.2
theorem StoreAt.app_waiting (h : StoreAt K a S M H) {x : Int} (z : M.waiting.length < sizeLine) (k : ∀ H', StoreAt K a S { M with waiting := M.waiting ++ [x] } H' → Mv a H a H' → Q .non H') : rAppend (.ref a.lw) [.int x] H Q := by
  have q := h.set_waiting (M.waiting ++ [x])
  refine ⟨a.lw, _, .int x, rfl, rfl, h.waiting, by rw [List.length_map]; exact z, ?_⟩
  have e : M.waiting.map V.int ++ [V.int x] = (M.waiting ++ [x]).map V.int := by rw [List.map_append]; rfl
  rw [e]
  exact k _ q.1 q.2
theorem StoreAt.app_free (h : StoreAt K a S M H) {x : Int} (z : M.free.length < sizeLine) (k : ∀ H', StoreAt K a S { M with free := M.free ++ [x] } H' → Mv a H a H' → Q .non H') : rAppend (.ref a.lf) [.int x] H Q := by
  have q := h.set_free (M.free ++ [x])
  refine ⟨a.lf, _, .int x, rfl, rfl, h.free, by rw [List.length_map]; exact z, ?_⟩
  have e : M.free.map V.int ++ [V.int x] = (M.free ++ [x]).map V.int := by rw [List.map_append]; rfl
  rw [e]
  exact k _ q.1 q.2
theorem StoreAt.nw_log {H0 : Hp} (h : StoreAt K a S M H0) {l : Addr} (sm : Same H0 H) (nl : H0 l = none) (hl : H l = some (.lst [])) (c : Cls K (He.ga K "Store")) (n : NoAttr K (He.ga K "Store") "log")
    (k : ∀ a' H', StoreAt K a' S { M with log := [] } H' → Mv a H0 a' H' → R H') : setK K "log" (.ref a.p) (.ref l) H R :=
  i_setK (h.same sm).ob c n (by show 13 < 1000; decide) (k { a with ll := l } _ ((h.same sm).new_log (h.fresh nl) hl) ((h.same sm).mvn_log sm nl))
theorem StoreAt.nw_waiting {H0 : Hp} (h : StoreAt K a S M H0) {l : Addr} (sm : Same H0 H) (nl : H0 l = none) (hl : H l = some (.lst [])) (c : Cls K (He.ga K "Store")) (n : NoAttr K (He.ga K "Store") "waiting")
    (k : ∀ a' H', StoreAt K a' S { M with waiting := [] } H' → Mv a H0 a' H' → R H') : setK K "waiting" (.ref a.p) (.ref l) H R :=
  i_setK (h.same sm).ob c n (by show 13 < 1000; decide) (k { a with lw := l } _ ((h.same sm).new_waiting (h.fresh nl) hl) ((h.same sm).mvn_waiting sm nl))
theorem StoreAt.nw_changed {H0 : Hp} (h : StoreAt K a S M H0) {l : Addr} (sm : Same H0 H) (nl : H0 l = none) (hl : H l = some (.dK [])) (c : Cls K (He.ga K "Store")) (n : NoAttr K (He.ga K "Store") "changed")
    (k : ∀ a' H', StoreAt K a' S { M with changed := [] } H' → Mv a H0 a' H' → R H') : setK K "changed" (.ref a.p) (.ref l) H R :=
  i_setK (h.same sm).ob c n (by show 13 < 1000; decide) (k { a with dc := l } _ ((h.same sm).new_changed (h.fresh nl) hl) ((h.same sm).mvn_changed sm nl))
theorem StoreAt.nw_ev {H0 : Hp} (h : StoreAt K a S M H0) {l : Addr} (sm : Same H0 H) (nl : H0 l = none) (hl : H l = some (.lst [])) (c : Cls K (He.ga K "Store")) (n : NoAttr K (He.ga K "Store") "events")
    (k : ∀ a' H', StoreAt K a' S { M with ev := [] } H' → Mv a H0 a' H' → R H') : setK K "events" (.ref a.p) (.ref l) H R :=
  i_setK (h.same sm).ob c n (by show 13 < 1000; decide) (k { a with le := l } _ ((h.same sm).new_ev (h.fresh nl) hl) ((h.same sm).mvn_ev sm nl))
theorem StoreAt.app_ev (h : StoreAt K a S M H) {v : V} {e : Ev} (hv : EvAt H v e) (z : M.ev.length < sizeLine) (k : ∀ H', StoreAt K a S { M with ev := M.ev ++ [e] } H' → Mv a H a H' → Q .non H') : rAppend (.ref a.le) [v] H Q := by
  obtain ⟨vs, e1, e2⟩ := h.ev
  have q := h.set_ev (M.ev ++ [e]) (vs ++ [v]) (e2.snoc hv)
  exact ⟨a.le, vs, v, rfl, rfl, e1, by rw [e2.1]; exact z, k _ q.1 q.2⟩
theorem StoreAt.pop_free (h : StoreAt K a S M H) (ne : M.free ≠ []) (k : ∀ H', StoreAt K a S { M with free := M.free.dropLast } H' → Mv a H a H' → Q (.int (M.free.getLastD 0)) H') : rPop (.ref a.lf) [] H Q := by
  have q := h.set_free M.free.dropLast
  refine ⟨a.lf, _, _, rfl, rfl, h.free, map_getLast ne, ?_⟩
  have e : (M.free.map V.int).dropLast = M.free.dropLast.map V.int := by rw [List.map_dropLast]
  rw [e]
  exact k _ q.1 q.2
theorem StoreAt.pop_heap (h : StoreAt K a S M H) (ne : M.heap ≠ []) (k : ∀ H', StoreAt K a S { M with heap := M.heap.tail } H' → Mv a H a H' → Q (.int (M.heap.headD 0)) H') : rPopAt (.ref a.lh) [.int 0] H Q := by
  have q := h.set_heap M.heap.tail
  have e0 := h.heap
  cases hh : M.heap with
  | nil => exact absurd hh ne
  | cons x r =>
    rw [hh] at q k e0
    refine ⟨a.lh, _, 0, 0, .int x, rfl, rfl, e0, by decide, by decide, ?_, rfl, ?_⟩
    · unfold seqIndex?
      simp
    · have e : ((x :: r).map V.int).eraseIdx 0 = (x :: r).tail.map V.int := rfl
      rw [e]
      exact k _ q.1 q.2
theorem StoreAt.put_changed (h : StoreAt K a S M H) {x : Int} (z : M.changed.length < sizeLine) (k : ∀ H', StoreAt K a S { M with changed := putI M.changed x } H' → Mv a H a H' → R H') : ∃ d H4, V.ref a.dc = .ref d ∧ DPut H d (.int x) (.bl true) H4 ∧ R H4 := by
  have q := h.set_changed (putI M.changed x)
  have p := DPut.k (k := .inl x) (v := .bl true) h.changed (by unfold chV; rw [List.length_map]; exact z)
  rw [putK_chV] at p
  exact ⟨a.dc, _, rfl, p, k _ q.1 q.2⟩
theorem StoreAt.pop_changed (h : StoreAt K a S M H) {x : Int} (k : ∀ v H', StoreAt K a S { M with changed := M.changed.filter fun y => decide (y ≠ x) } H' → Mv a H a H' → Q v H') :
    ∃ kvs ky, H a.dc = some (.dK kvs) ∧ V.int x = kV ky ∧ (∀ v, valV kvs ky = some v → Q v (upd H a.dc (.dK (dropK kvs ky)))) ∧ (valV kvs ky = none → Q .non H) := by
  refine ⟨_, .inl x, h.changed, rfl, fun v _ => ?_, fun e => ?_⟩
  · have q := h.set_changed (M.changed.filter fun y => decide (y ≠ x))
    rw [dropK_chV]
    exact k v _ q.1 q.2
  · have hx : x ∉ M.changed := fun m => by
      rw [valV_chV, if_pos m] at e
      cases e
    have e2 : (M.changed.filter fun y => decide (y ≠ x)) = M.changed := List.filter_eq_self.mpr fun y hy => by
      have : y ≠ x := fun q => hx (q ▸ hy)
      simpa using this
    refine k .non H ?_ (Mv.refl _ _)
    rw [e2]
    exact h
/-- a key's tuple -/
theorem StoreAt.get_nodes (h : StoreAt K a S M H) {b : Addr} {q : Int × Int} (hb : H b = some (.tup [.int q.1, .int q.2])) : DGet H a.dn (.ref b) ((lookN M.nodes q).map V.int) := by
  have g := DGet.t (k := nkey q) h.nodes hb
  rw [valV_nodes] at g
  exact g
theorem StoreAt.put_nodes (h : StoreAt K a S M H) {b : Addr} {q : Int × Int} {x : Int} (hb : H b = some (.tup [.int q.1, .int q.2])) (z : M.nodes.length < sizeLine)
    (k : ∀ H', StoreAt K a S { M with nodes := putN M.nodes q x } H' → Mv a H a H' → R H') : ∃ d H4, V.ref a.dn = .ref d ∧ DPut H d (.ref b) (.int x) H4 ∧ R H4 := by
  have g := h.set_nodes (putN M.nodes q x)
  have p := DPut.t (k := nkey q) (v := .int x) h.nodes hb (by unfold nodesV; rw [List.length_map]; exact z)
  rw [putK_nodes] at p
  exact ⟨a.dn, _, rfl, p, k _ g.1 g.2⟩
end
end K90


namespace K90
open PySem PySem.Spec PyProof.Rows L2 KR
local macro_rules | `(tactic| wtm_at "go1") => `(tactic| first
  | (with_reducible refine i_seq ?_) | ((with_reducible refine' i_var ?k1 ?_); (case k1 => exact rfl)) | (with_reducible refine i_c ?_) | (with_reducible refine i_asg ?_) | (with_reducible refine i_name ?_)
  | (with_reducible refine i_ret ?_) | (with_reducible refine i_retN ?_) | (with_reducible refine i_drop ?_) | (with_reducible refine i_next ?_) | (with_reducible refine i_op ?_) | (with_reducible refine i_rI0 ?_)
  | (with_reducible refine i_fld ?_) | (with_reducible refine i_setf ?_) | (with_reducible refine i_augf ?_) | (with_reducible refine i_meth ?_) | (with_reducible refine i_cons ?_) | (with_reducible refine i_nil ?_)
  | (with_reducible refine i_call ?_) | (with_reducible refine i_cb ?_) | (with_reducible refine i_test ?_) | (with_reducible refine i_tB ?_) | (with_reducible refine i_bl ?_) | (with_reducible refine i_not ?_)
  | (with_reducible refine i_if ?_) | (with_reducible refine i_ifE ?_) | (with_reducible refine i_andV ?_) | (with_reducible refine i_orV ?_) | (with_reducible refine i_notV ?_) | (with_reducible refine i_and ?_) | (with_reducible refine i_or ?_)
  | (with_reducible refine i_rEqI ?_) | (with_reducible refine i_rNeI ?_) | (with_reducible refine i_un ?_) | (with_reducible refine i_rU ?_) | (with_reducible refine i_chain ?_) | (with_reducible refine i_tpar ?_) | (with_reducible refine i_par ?_) | (with_reducible refine i_tpar3 ?_) | (with_reducible refine i_par3 ?_)
  | ((with_reducible refine' i_aug ?k1 ?_); (case k1 => exact rfl)) | (with_reducible refine i_ipI ?_) | (with_reducible refine i_tup ?_) | (with_reducible refine i_lst ?_) | (with_reducible refine i_bm ?_) | (with_reducible refine i_bm0 ?_)
  | (with_reducible refine i_for ?_) | (with_reducible refine i_list ?_) | (with_reducible refine i_rng1 ?_) | (with_reducible refine i_keys ?_) | (with_reducible refine i_lc ?_) | (with_reducible refine i_yes ?_) | (with_reducible refine i_dput ?_)
  | (with_reducible refine i_dget ?_) | (with_reducible refine i_din ?_) | (with_reducible refine i_dnotin ?_) | (with_reducible refine i_dget1 ?_) | (with_reducible refine i_dget2 ?_) | (with_reducible refine i_dpop2 ?_)
  | (with_reducible refine q_max2 ?_) | (with_reducible refine q_min2 ?_) | (with_reducible refine q_notN ?_) | (with_reducible refine q_isN ?_) | (with_reducible refine i_gtup ?_) | (with_reducible refine i_gcons ?_) | (with_reducible refine i_gnil ?_) | (with_reducible refine i_make ?_) | (with_reducible refine i_dnewK ?_) | (with_reducible refine i_dnewT ?_)
  | (with_reducible refine q_int1 ?_) | (with_reducible refine q_int1b ?_) | (with_reducible refine i_sl ?_) | (with_reducible refine i_npart ?_) | (with_reducible refine i_part ?_) | (with_reducible refine i_pint ?_) | (with_reducible refine i_pcons ?_) | (with_reducible refine i_pnil ?_) | (with_reducible refine i_gsub ?_) | (with_reducible refine i_makeKw ?_)
  | (with_reducible refine i_rAdd ?_) | (with_reducible refine i_rSub ?_) | (with_reducible refine i_isN ?_))
local macro_rules | `(tactic| wtm_at "go") => `(tactic| repeat (wtm_at "go1"))

section
variable {P : Program} {w : World} {K : PySem.W.Frag} {mg : Str → Option Value} {base : Heap}
def sp_is_integer (K : PySem.W.Frag) : Sp := fun vs H Q _ => ∃ i : Int, vs = [.int i] ∧ Q (.bl true) H
theorem O_is_integer (T : Tx K mg) : GF P w K mg base CX0 "is_integer" ["value"] 1 (sp_is_integer K) := by
  obtain ⟨fd, F⟩ := T.F_is_integer
  refine ⟨_, fd, ?_, T.g_is_integer, F.kp, F.bindsN fun _ _ _ _ _ _ us hl => match us, hl with | [_], _ => rfl⟩
  refine F.ok sc_is_integer (fun vs H Q E h => ?_) (fun cdv A outer s H vs Q E hr h => ?_)
  · first | (obtain ⟨rfl, _⟩ := h; rfl) | (obtain ⟨_, rfl, _⟩ := h; rfl) | (obtain ⟨_, _, rfl, _⟩ := h; rfl) | (obtain ⟨_, _, _, rfl, _⟩ := h; rfl) | (obtain ⟨_, _, _, _, rfl, _⟩ := h; rfl) | (obtain ⟨_, _, _, _, _, rfl, _⟩ := h; rfl) | (obtain ⟨_, _, _, _, _, _, rfl, _⟩ := h; rfl) | (obtain ⟨_, _, _, _, _, _, _, rfl, _⟩ := h; rfl) | (obtain ⟨_, _, _, _, _, _, _, _, rfl, _⟩ := h; rfl) | (obtain ⟨_, _, _, _, _, _, _, _, _, rfl, _⟩ := h; rfl) | (obtain ⟨_, _, _, _, _, _, _, _, _, _, rfl, _⟩ := h; rfl) | (obtain ⟨_, _, _, _, _, _, _, _, _, _, _, rfl, _⟩ := h; rfl) | (obtain ⟨_, _, _, _, _, _, _, _, _, _, _, _, rfl, _⟩ := h; rfl) | (obtain ⟨_, _, _, _, _, _, _, _, _, _, _, _, _, rfl, _⟩ := h; rfl) | (obtain ⟨_, _, _, _, _, _, _, _, _, _, _, _, _, _, rfl, _⟩ := h; rfl) | (obtain ⟨_, _, _, _, _, _, _, _, _, _, _, _, _, _, _, rfl, _⟩ := h; rfl) | (obtain ⟨_, _, _, _, _, _, _, _, _, _, _, _, _, _, _, _, rfl, _⟩ := h; rfl) | (obtain ⟨_, _, _, _, _, _, _, _, _, _, _, _, _, _, _, _, _, rfl, _⟩ := h; rfl) | (obtain ⟨_, _, _, _, _, _, _, _, _, _, _, _, _, _, _, _, _, _, rfl, _⟩ := h; rfl) | (obtain ⟨_, _, _, _, _, _, _, _, _, _, _, _, _, _, _, _, _, _, _, rfl, _⟩ := h; rfl) | (obtain ⟨_, _, _, _, _, _, _, _, _, _, _, _, _, _, _, _, _, _, _, _, rfl, _⟩ := h; rfl) | (obtain ⟨_, _, _, _, _, _, _, _, _, _, _, _, _, _, _, _, _, _, _, _, _, rfl, _⟩ := h; rfl)
  · obtain ⟨i, rfl, k⟩ := h
    refine ⟨_, PSs.nox (pss_one (ps_ret (pe_and (pe_callB call_isi (by rfl) T.f_isinstance (by decide +kernel) (pa_cons (pv 0) (pa_cons (pe_bltn (v := .ty "int") (by rfl) T.f_int (by decide +kernel) rfl) pa_nil))) (pe_one (pe_not (pe_callB call_isi (by rfl) T.f_isinstance (by decide +kernel) (pa_cons (pv 0) (pa_cons (pe_bltn (v := .ty "bool") (by rfl) T.f_bool (by decide +kernel) rfl) pa_nil)))))))), ?_⟩
    wtm_at "go"
    refine i_isi (b := true) (ClsV.ty _) (TyX.base (TyOf.int _)) (kit_ty (by decide +kernel)) ?_
    wtm_at "go"
    refine iteT ?_
    wtm_at "go"
    refine i_isi (b := false) (ClsV.ty _) (TyX.base (TyOf.int _)) (kit_ty (by decide +kernel)) ?_
    wtm_at "go"
    exact k
def sp_is_between (K : PySem.W.Frag) : Sp := fun vs H Q _ => ∃ v lo hi : Int, vs = [.int v, .int lo, .int hi] ∧ Q (.bl (decide (lo ≤ v) && decide (v ≤ hi))) H
theorem O_is_between (T : Tx K mg) : GF P w K mg base CX0 "is_between" ["value", "low", "high"] 2 (sp_is_between K) := by
  have O_is_integer := O_is_integer (P := P) (w := w) (base := base) T
  obtain ⟨fd, F⟩ := T.F_is_between
  refine ⟨_, fd, ?_, T.g_is_between, F.kp, F.bindsN fun _ _ _ _ _ _ us hl => match us, hl with | [_, _, _], _ => rfl⟩
  refine F.ok sc_is_between (fun vs H Q E h => ?_) (fun cdv A outer s H vs Q E hr h => ?_)
  · first | (obtain ⟨rfl, _⟩ := h; rfl) | (obtain ⟨_, rfl, _⟩ := h; rfl) | (obtain ⟨_, _, rfl, _⟩ := h; rfl) | (obtain ⟨_, _, _, rfl, _⟩ := h; rfl) | (obtain ⟨_, _, _, _, rfl, _⟩ := h; rfl) | (obtain ⟨_, _, _, _, _, rfl, _⟩ := h; rfl) | (obtain ⟨_, _, _, _, _, _, rfl, _⟩ := h; rfl) | (obtain ⟨_, _, _, _, _, _, _, rfl, _⟩ := h; rfl) | (obtain ⟨_, _, _, _, _, _, _, _, rfl, _⟩ := h; rfl) | (obtain ⟨_, _, _, _, _, _, _, _, _, rfl, _⟩ := h; rfl) | (obtain ⟨_, _, _, _, _, _, _, _, _, _, rfl, _⟩ := h; rfl) | (obtain ⟨_, _, _, _, _, _, _, _, _, _, _, rfl, _⟩ := h; rfl) | (obtain ⟨_, _, _, _, _, _, _, _, _, _, _, _, rfl, _⟩ := h; rfl) | (obtain ⟨_, _, _, _, _, _, _, _, _, _, _, _, _, rfl, _⟩ := h; rfl) | (obtain ⟨_, _, _, _, _, _, _, _, _, _, _, _, _, _, rfl, _⟩ := h; rfl) | (obtain ⟨_, _, _, _, _, _, _, _, _, _, _, _, _, _, _, rfl, _⟩ := h; rfl) | (obtain ⟨_, _, _, _, _, _, _, _, _, _, _, _, _, _, _, _, rfl, _⟩ := h; rfl) | (obtain ⟨_, _, _, _, _, _, _, _, _, _, _, _, _, _, _, _, _, rfl, _⟩ := h; rfl) | (obtain ⟨_, _, _, _, _, _, _, _, _, _, _, _, _, _, _, _, _, _, rfl, _⟩ := h; rfl) | (obtain ⟨_, _, _, _, _, _, _, _, _, _, _, _, _, _, _, _, _, _, _, rfl, _⟩ := h; rfl) | (obtain ⟨_, _, _, _, _, _, _, _, _, _, _, _, _, _, _, _, _, _, _, _, rfl, _⟩ := h; rfl) | (obtain ⟨_, _, _, _, _, _, _, _, _, _, _, _, _, _, _, _, _, _, _, _, _, rfl, _⟩ := h; rfl)
  · obtain ⟨v, lo, hi, rfl, k⟩ := h
    refine ⟨_, PSs.nox (pss_one (ps_ret (pe_and (pg O_is_integer hr pass0 (pa_cons (pv 0) pa_nil)) (pe_one (pe_chain op_le op_le (pv 1) (pv 0) (pv 2)))))), ?_⟩
    wtm_at "go"
    refine ⟨v, rfl, ?_⟩
    wtm_at "go"
    refine iteT ?_
    wtm_at "go"
    refine ite2 (fun c => ?_) (fun c => ?_)
    · wtm_at "go"
      rw [c] at k
      exact k
    · have e := Bool.not_eq_true _ ▸ c
      rw [e] at k
      exact k
def sp_check_part (K : PySem.W.Frag) : Sp := fun vs H Q _ => ∃ (part : Str) (v lo hi : Int), vs = [.str part, .int v, .int lo, .int hi] ∧ lo ≤ v ∧ v ≤ hi ∧ Q .non H
theorem O_check_part (T : Tx K mg) : GF P w K mg base CX0 "check_part" ["part", "value", "low", "high"] 3 (sp_check_part K) := by
  have O_is_between := O_is_between (P := P) (w := w) (base := base) T
  obtain ⟨fd, F⟩ := T.F_check_part
  refine ⟨_, fd, ?_, T.g_check_part, F.kp, F.bindsN fun _ _ _ _ _ _ us hl => match us, hl with | [_, _, _, _], _ => rfl⟩
  refine F.ok sc_check_part (fun vs H Q E h => ?_) (fun cdv A outer s H vs Q E hr h => ?_)
  · first | (obtain ⟨rfl, _⟩ := h; rfl) | (obtain ⟨_, rfl, _⟩ := h; rfl) | (obtain ⟨_, _, rfl, _⟩ := h; rfl) | (obtain ⟨_, _, _, rfl, _⟩ := h; rfl) | (obtain ⟨_, _, _, _, rfl, _⟩ := h; rfl) | (obtain ⟨_, _, _, _, _, rfl, _⟩ := h; rfl) | (obtain ⟨_, _, _, _, _, _, rfl, _⟩ := h; rfl) | (obtain ⟨_, _, _, _, _, _, _, rfl, _⟩ := h; rfl) | (obtain ⟨_, _, _, _, _, _, _, _, rfl, _⟩ := h; rfl) | (obtain ⟨_, _, _, _, _, _, _, _, _, rfl, _⟩ := h; rfl) | (obtain ⟨_, _, _, _, _, _, _, _, _, _, rfl, _⟩ := h; rfl) | (obtain ⟨_, _, _, _, _, _, _, _, _, _, _, rfl, _⟩ := h; rfl) | (obtain ⟨_, _, _, _, _, _, _, _, _, _, _, _, rfl, _⟩ := h; rfl) | (obtain ⟨_, _, _, _, _, _, _, _, _, _, _, _, _, rfl, _⟩ := h; rfl) | (obtain ⟨_, _, _, _, _, _, _, _, _, _, _, _, _, _, rfl, _⟩ := h; rfl) | (obtain ⟨_, _, _, _, _, _, _, _, _, _, _, _, _, _, _, rfl, _⟩ := h; rfl) | (obtain ⟨_, _, _, _, _, _, _, _, _, _, _, _, _, _, _, _, rfl, _⟩ := h; rfl) | (obtain ⟨_, _, _, _, _, _, _, _, _, _, _, _, _, _, _, _, _, rfl, _⟩ := h; rfl) | (obtain ⟨_, _, _, _, _, _, _, _, _, _, _, _, _, _, _, _, _, _, rfl, _⟩ := h; rfl) | (obtain ⟨_, _, _, _, _, _, _, _, _, _, _, _, _, _, _, _, _, _, _, rfl, _⟩ := h; rfl) | (obtain ⟨_, _, _, _, _, _, _, _, _, _, _, _, _, _, _, _, _, _, _, _, rfl, _⟩ := h; rfl) | (obtain ⟨_, _, _, _, _, _, _, _, _, _, _, _, _, _, _, _, _, _, _, _, _, rfl, _⟩ := h; rfl)
  · obtain ⟨part, v, lo, hi, rfl, h1, h2, k⟩ := h
    refine ⟨_, PSs.nox (pss_one (ps_if (pt_not (pt_val (pg O_is_between hr pass0 (pa_cons (pv 1) (pa_cons (pv 2) (pa_cons (pv 3) pa_nil))))))
  (pss_one ps_never)
  pss_nil)), ?_⟩
    wtm_at "go"
    refine ⟨v, lo, hi, rfl, ?_⟩
    wtm_at "go"
    rw [decide_eq_true h1, decide_eq_true h2]
    refine iteF ?_
    exact k
def sp_check_settings (K : PySem.W.Frag) : Sp := fun vs H Q _ => ∃ (p t : Addr) (S : Sett), vs = [.ref p] ∧ SetAt K p t S H ∧ Q .non H
theorem O_check_settings (T : Tx K mg) : GF P w K mg base CX0 "check_settings" ["value"] 1 (sp_check_settings K) := by
  obtain ⟨fd, F⟩ := T.F_check_settings
  refine ⟨_, fd, ?_, T.g_check_settings, F.kp, F.bindsN fun _ _ _ _ _ _ us hl => match us, hl with | [_], _ => rfl⟩
  refine F.ok sc_check_settings (fun vs H Q E h => ?_) (fun cdv A outer s H vs Q E hr h => ?_)
  · first | (obtain ⟨rfl, _⟩ := h; rfl) | (obtain ⟨_, rfl, _⟩ := h; rfl) | (obtain ⟨_, _, rfl, _⟩ := h; rfl) | (obtain ⟨_, _, _, rfl, _⟩ := h; rfl) | (obtain ⟨_, _, _, _, rfl, _⟩ := h; rfl) | (obtain ⟨_, _, _, _, _, rfl, _⟩ := h; rfl) | (obtain ⟨_, _, _, _, _, _, rfl, _⟩ := h; rfl) | (obtain ⟨_, _, _, _, _, _, _, rfl, _⟩ := h; rfl) | (obtain ⟨_, _, _, _, _, _, _, _, rfl, _⟩ := h; rfl) | (obtain ⟨_, _, _, _, _, _, _, _, _, rfl, _⟩ := h; rfl) | (obtain ⟨_, _, _, _, _, _, _, _, _, _, rfl, _⟩ := h; rfl) | (obtain ⟨_, _, _, _, _, _, _, _, _, _, _, rfl, _⟩ := h; rfl) | (obtain ⟨_, _, _, _, _, _, _, _, _, _, _, _, rfl, _⟩ := h; rfl) | (obtain ⟨_, _, _, _, _, _, _, _, _, _, _, _, _, rfl, _⟩ := h; rfl) | (obtain ⟨_, _, _, _, _, _, _, _, _, _, _, _, _, _, rfl, _⟩ := h; rfl) | (obtain ⟨_, _, _, _, _, _, _, _, _, _, _, _, _, _, _, rfl, _⟩ := h; rfl) | (obtain ⟨_, _, _, _, _, _, _, _, _, _, _, _, _, _, _, _, rfl, _⟩ := h; rfl) | (obtain ⟨_, _, _, _, _, _, _, _, _, _, _, _, _, _, _, _, _, rfl, _⟩ := h; rfl) | (obtain ⟨_, _, _, _, _, _, _, _, _, _, _, _, _, _, _, _, _, _, rfl, _⟩ := h; rfl) | (obtain ⟨_, _, _, _, _, _, _, _, _, _, _, _, _, _, _, _, _, _, _, rfl, _⟩ := h; rfl) | (obtain ⟨_, _, _, _, _, _, _, _, _, _, _, _, _, _, _, _, _, _, _, _, rfl, _⟩ := h; rfl) | (obtain ⟨_, _, _, _, _, _, _, _, _, _, _, _, _, _, _, _, _, _, _, _, _, rfl, _⟩ := h; rfl)
  · obtain ⟨p, t, S, rfl, hs, k⟩ := h
    refine ⟨_, PSs.nox (pss_one (ps_if (pt_not (pt_val (pe_callB call_isi (by rfl) T.f_isinstance (by decide +kernel) (pa_cons (pv 0) (pa_cons (pcl T.g_Settings) pa_nil)))))
  (pss_one ps_never)
  pss_nil)), ?_⟩
    wtm_at "go"
    obtain ⟨dx, e⟩ := hs.ob
    obtain ⟨z1, z2⟩ := isi_Settings T.ex
    refine i_isi (b := true) (ClsV.own _) (TyX.base (z1 H p dx _ e T.c_Settings)) z2 ?_
    wtm_at "go"
    refine iteF ?_
    exact k
def sp_root_level (K : PySem.W.Frag) : Sp := fun vs H Q _ => ∃ o n f : Int, vs = [.int o, .int n, .int f] ∧ 0 ≤ o ∧ o ≤ n ∧ 2 ≤ f ∧ f ≤ 8 ∧ Q (.int (rootLevel o n f)) H
theorem O_root_level (T : Tx K mg) : GF P w K mg base CX0 "root_level" ["oldest", "newest", "fanout"] 1 (sp_root_level K) := by
  obtain ⟨fd, F⟩ := T.F_root_level
  refine ⟨_, fd, ?_, T.g_root_level, F.kp, F.bindsN fun _ _ _ _ _ _ us hl => match us, hl with | [_, _, _], _ => rfl⟩
  refine F.ok sc_root_level (fun vs H Q E h => ?_) (fun cdv A outer s H vs Q E hr h => ?_)
  · first | (obtain ⟨rfl, _⟩ := h; rfl) | (obtain ⟨_, rfl, _⟩ := h; rfl) | (obtain ⟨_, _, rfl, _⟩ := h; rfl) | (obtain ⟨_, _, _, rfl, _⟩ := h; rfl) | (obtain ⟨_, _, _, _, rfl, _⟩ := h; rfl) | (obtain ⟨_, _, _, _, _, rfl, _⟩ := h; rfl) | (obtain ⟨_, _, _, _, _, _, rfl, _⟩ := h; rfl) | (obtain ⟨_, _, _, _, _, _, _, rfl, _⟩ := h; rfl) | (obtain ⟨_, _, _, _, _, _, _, _, rfl, _⟩ := h; rfl) | (obtain ⟨_, _, _, _, _, _, _, _, _, rfl, _⟩ := h; rfl) | (obtain ⟨_, _, _, _, _, _, _, _, _, _, rfl, _⟩ := h; rfl) | (obtain ⟨_, _, _, _, _, _, _, _, _, _, _, rfl, _⟩ := h; rfl) | (obtain ⟨_, _, _, _, _, _, _, _, _, _, _, _, rfl, _⟩ := h; rfl) | (obtain ⟨_, _, _, _, _, _, _, _, _, _, _, _, _, rfl, _⟩ := h; rfl) | (obtain ⟨_, _, _, _, _, _, _, _, _, _, _, _, _, _, rfl, _⟩ := h; rfl) | (obtain ⟨_, _, _, _, _, _, _, _, _, _, _, _, _, _, _, rfl, _⟩ := h; rfl) | (obtain ⟨_, _, _, _, _, _, _, _, _, _, _, _, _, _, _, _, rfl, _⟩ := h; rfl) | (obtain ⟨_, _, _, _, _, _, _, _, _, _, _, _, _, _, _, _, _, rfl, _⟩ := h; rfl) | (obtain ⟨_, _, _, _, _, _, _, _, _, _, _, _, _, _, _, _, _, _, rfl, _⟩ := h; rfl) | (obtain ⟨_, _, _, _, _, _, _, _, _, _, _, _, _, _, _, _, _, _, _, rfl, _⟩ := h; rfl) | (obtain ⟨_, _, _, _, _, _, _, _, _, _, _, _, _, _, _, _, _, _, _, _, rfl, _⟩ := h; rfl) | (obtain ⟨_, _, _, _, _, _, _, _, _, _, _, _, _, _, _, _, _, _, _, _, _, rfl, _⟩ := h; rfl)
  · obtain ⟨o, n, f, rfl, h0, h1, h2, h8, k⟩ := h
    have cd : CDiv o f := ⟨by omega, by omega⟩
    refine ⟨_, PSs.nox (pss_cons (ps_par3 (i := 0) (j := 1) (l := 3) (by rfl) sc_root_level.nd rfl rfl rfl (by decide) (by decide) (by decide) rfl rfl rfl (pa_cons (pe_op op_fdiv (pv 0) (pv 2)) (pa_cons (pe_op op_fdiv (pv 1) (pv 2)) (pa_cons pe_int pa_nil))) (by rfl))
  (pss_cons (ps_while PassesOwn.never (pt_cmpR op_ne (pv 0) (pv 1) (nomark _))
  (pss_one (ps_par3 (i := 0) (j := 1) (l := 3) (by rfl) sc_root_level.nd rfl rfl rfl (by decide) (by decide) (by decide) rfl rfl rfl (pa_cons (pe_op op_fdiv (pv 0) (pv 2)) (pa_cons (pe_op op_fdiv (pv 1) (pv 2)) (pa_cons (pe_op op_add (pv 3) pe_int) pa_nil))) (by rfl))))
  (pss_one (ps_ret (pv 3))))), ?_⟩
    wtm_at "go"
    refine i_rI ⟨by omega, by omega⟩ ?_
    wtm_at "go"
    refine i_rI ⟨by omega, by omega⟩ ?_
    wtm_at "go"
    wtm_at "go"
    refine i_whileR (fun m σ H' => H' = H ∧ ∃ (x y l : Int), σ = [some (.int x), some (.int y), some (.int f), some (.int l)] ∧ 0 ≤ x ∧ x ≤ y ∧ y.toNat ≤ m ∧ rl f m x y l = rootLevel o n f) n.toNat ?_ ?_
    · refine ⟨rfl, o / f, n / f, 0, rfl, Int.ediv_nonneg h0 (by omega), Int.ediv_le_ediv (by omega) h1, ?_, rfl⟩
      have : n / f ≤ n := Int.ediv_le_self _ (by omega)
      omega
    · rintro j σ H' ⟨rfl, x, y, l, rfl, hx, hxy, hj, e⟩
      wtm_at "go"
      by_cases hxe : x = y
      · rw [show (!decide (x = y)) = false by simp [hxe]]
        refine iteF ?_
        wtm_at "go"
        have e2 : rl f j x y l = l := by
          cases j with
          | zero => rfl
          | succ j => simp [rl, hxe]
        rw [e2] at e
        rw [e]
        exact k
      · rw [show (!decide (x = y)) = true by simp [hxe]]
        refine iteT ⟨_, fun _ _ z => z, ?_⟩
        wtm_at "go"
        refine i_rI ⟨by omega, by omega⟩ ?_
        wtm_at "go"
        refine i_rI ⟨by omega, by omega⟩ ?_
        wtm_at "go"
        cases j with
        | zero => exfalso; omega
        | succ j =>
          refine ⟨j, Nat.lt_succ_self j, rfl, x / f, y / f, l + 1, rfl, Int.ediv_nonneg hx (by omega), Int.ediv_le_ediv (by omega) hxy, ?_, ?_⟩
          · have h5 : y / f < y := Int.ediv_lt_self_of_pos_of_ne_one (by omega) (by omega)
            have h6 : 0 ≤ y / f := Int.ediv_nonneg (by omega) (by omega)
            omega
          · rw [← e]
            simp [rl, hxe]
end
end K90


namespace K90
open PySem PySem.Spec PyProof.Rows L2 KR
local macro_rules | `(tactic| wtm_at "go1") => `(tactic| first
  | (with_reducible refine i_seq ?_) | ((with_reducible refine' i_var ?k1 ?_); (case k1 => exact rfl)) | (with_reducible refine i_c ?_) | (with_reducible refine i_asg ?_) | (with_reducible refine i_name ?_)
  | (with_reducible refine i_ret ?_) | (with_reducible refine i_retN ?_) | (with_reducible refine i_drop ?_) | (with_reducible refine i_next ?_) | (with_reducible refine i_op ?_) | (with_reducible refine i_rI0 ?_)
  | (with_reducible refine i_fld ?_) | (with_reducible refine i_setf ?_) | (with_reducible refine i_augf ?_) | (with_reducible refine i_meth ?_) | (with_reducible refine i_cons ?_) | (with_reducible refine i_nil ?_)
  | (with_reducible refine i_call ?_) | (with_reducible refine i_cb ?_) | (with_reducible refine i_test ?_) | (with_reducible refine i_tB ?_) | (with_reducible refine i_bl ?_) | (with_reducible refine i_not ?_)
  | (with_reducible refine i_if ?_) | (with_reducible refine i_ifE ?_) | (with_reducible refine i_andV ?_) | (with_reducible refine i_orV ?_) | (with_reducible refine i_notV ?_) | (with_reducible refine i_and ?_) | (with_reducible refine i_or ?_)
  | (with_reducible refine i_rEqI ?_) | (with_reducible refine i_rNeI ?_) | (with_reducible refine i_un ?_) | (with_reducible refine i_rU ?_) | (with_reducible refine i_chain ?_) | (with_reducible refine i_tpar ?_) | (with_reducible refine i_par ?_) | (with_reducible refine i_tpar3 ?_) | (with_reducible refine i_par3 ?_)
  | ((with_reducible refine' i_aug ?k1 ?_); (case k1 => exact rfl)) | (with_reducible refine i_ipI ?_) | (with_reducible refine i_tup ?_) | (with_reducible refine i_lst ?_) | (with_reducible refine i_bm ?_) | (with_reducible refine i_bm0 ?_)
  | (with_reducible refine i_for ?_) | (with_reducible refine i_list ?_) | (with_reducible refine i_rng1 ?_) | (with_reducible refine i_keys ?_) | (with_reducible refine i_lc ?_) | (with_reducible refine i_yes ?_) | (with_reducible refine i_dput ?_)
  | (with_reducible refine i_dget ?_) | (with_reducible refine i_din ?_) | (with_reducible refine i_dnotin ?_) | (with_reducible refine i_dget1 ?_) | (with_reducible refine i_dget2 ?_) | (with_reducible refine i_dpop2 ?_)
  | (with_reducible refine q_max2 ?_) | (with_reducible refine q_min2 ?_) | (with_reducible refine q_notN ?_) | (with_reducible refine q_isN ?_) | (with_reducible refine i_gtup ?_) | (with_reducible refine i_gcons ?_) | (with_reducible refine i_gnil ?_) | (with_reducible refine i_make ?_) | (with_reducible refine i_dnewK ?_) | (with_reducible refine i_dnewT ?_)
  | (with_reducible refine q_int1 ?_) | (with_reducible refine q_int1b ?_) | (with_reducible refine i_sl ?_) | (with_reducible refine i_npart ?_) | (with_reducible refine i_part ?_) | (with_reducible refine i_pint ?_) | (with_reducible refine i_pcons ?_) | (with_reducible refine i_pnil ?_) | (with_reducible refine i_gsub ?_) | (with_reducible refine i_makeKw ?_)
  | (with_reducible refine i_rAdd ?_) | (with_reducible refine i_rSub ?_) | (with_reducible refine i_isN ?_))
local macro_rules | `(tactic| wtm_at "go") => `(tactic| repeat (wtm_at "go1"))

/-- a Packing that is still being made: what its rows ask -/
structure PkPart (K : PySem.W.Frag) (p t : Addr) (S : Sett) (H : Hp) : Prop where
  ob : ∃ dx fs, H p = some (.ins (He.ga K "Packing") dx fs) ∧ fs.lookup ("row_lengths" : Str) = some (.ref t) ∧ fs.lookup ("room" : Str) = some (.int S.size) ∧ fs.lookup ("length" : Str) = none
  tp : H t = some (.tup (S.lengths.map V.int))
  ok : S.Ok
theorem PkPart.same {K : PySem.W.Frag} {p t : Addr} {S : Sett} {H H' : Hp} (x : PkPart K p t S H) (s : Same H H') : PkPart K p t S H' :=
  let ⟨dx, fs, e, r⟩ := x.ob
  ⟨⟨dx, fs, s _ _ e, r⟩, s _ _ x.tp, x.ok⟩
theorem PackAt.part {K : PySem.W.Frag} {p t l : Addr} {S : Sett} {H : Hp} (x : PackAt K p t l S H) : PkPart K p t S H :=
  let ⟨dx, _, _, e, _⟩ := x.ob
  ⟨⟨dx, _, e, packF_row_lengths, packF_room, packF_no_length⟩, x.tp, x.ok⟩
theorem atI_len {S : Sett} (h : S.Ok) (r : Int) : atI (S.lengths.map V.int) (r % (S.lengths.length : Int)) = some (.int (S.lenAt r)) := by
  have h1 := h.ix r
  have h2 := Int.emod_nonneg r (Int.ne_of_gt h.len_pos)
  have e : r % (S.lengths.length : Int) = ((r % (S.lengths.length : Int)).toNat : Int) := by omega
  refine at_of e ?_
  rw [List.getElem?_map, List.getElem?_eq_getElem h1]
  unfold Sett.lenAt
  rw [List.getD_eq_getElem?_getD, List.getElem?_eq_getElem h1]
  rfl
theorem at_period_cast {S : Sett} {i n : Nat} (hin : i < n) (e : S.res n = S.res i) (d : Nat) : S.at (i + d) = S.at (i + d % (n - i)) + ((d / (n - i) : Nat) : Int) * (S.at n - S.at i) := Sett.at_period hin e d
section
variable {P : Program} {w : World} {K : PySem.W.Frag} {mg : Str → Option Value} {base : Heap}
def sp_Packing_length (K : PySem.W.Frag) : Sp := fun vs H Q _ => ∃ (p t : Addr) (S : Sett) (row : Int), vs = [.ref p, .int row] ∧ PkPart K p t S H ∧ Q (.int (S.lenAt row)) H
theorem O_Packing_length (T : Tx K mg) : MF P w K mg base CX0 (He.ga K "Packing") "length" ["self", "row"] 1 (sp_Packing_length K) := by
  obtain ⟨fd, F⟩ := T.F_Packing_length
  refine ⟨_, fd, ?_, T.m_Packing_length, F.bindsN fun _ _ _ _ _ _ us hl => match us, hl with | [_, _], _ => rfl⟩
  refine F.ok sc_Packing_length (fun vs H Q E h => ?_) (fun cdv A outer s H vs Q E hr h => ?_)
  · first | (obtain ⟨rfl, _⟩ := h; rfl) | (obtain ⟨_, rfl, _⟩ := h; rfl) | (obtain ⟨_, _, rfl, _⟩ := h; rfl) | (obtain ⟨_, _, _, rfl, _⟩ := h; rfl) | (obtain ⟨_, _, _, _, rfl, _⟩ := h; rfl) | (obtain ⟨_, _, _, _, _, rfl, _⟩ := h; rfl) | (obtain ⟨_, _, _, _, _, _, rfl, _⟩ := h; rfl) | (obtain ⟨_, _, _, _, _, _, _, rfl, _⟩ := h; rfl) | (obtain ⟨_, _, _, _, _, _, _, _, rfl, _⟩ := h; rfl) | (obtain ⟨_, _, _, _, _, _, _, _, _, rfl, _⟩ := h; rfl) | (obtain ⟨_, _, _, _, _, _, _, _, _, _, rfl, _⟩ := h; rfl) | (obtain ⟨_, _, _, _, _, _, _, _, _, _, _, rfl, _⟩ := h; rfl) | (obtain ⟨_, _, _, _, _, _, _, _, _, _, _, _, rfl, _⟩ := h; rfl) | (obtain ⟨_, _, _, _, _, _, _, _, _, _, _, _, _, rfl, _⟩ := h; rfl) | (obtain ⟨_, _, _, _, _, _, _, _, _, _, _, _, _, _, rfl, _⟩ := h; rfl) | (obtain ⟨_, _, _, _, _, _, _, _, _, _, _, _, _, _, _, rfl, _⟩ := h; rfl) | (obtain ⟨_, _, _, _, _, _, _, _, _, _, _, _, _, _, _, _, rfl, _⟩ := h; rfl) | (obtain ⟨_, _, _, _, _, _, _, _, _, _, _, _, _, _, _, _, _, rfl, _⟩ := h; rfl) | (obtain ⟨_, _, _, _, _, _, _, _, _, _, _, _, _, _, _, _, _, _, rfl, _⟩ := h; rfl) | (obtain ⟨_, _, _, _, _, _, _, _, _, _, _, _, _, _, _, _, _, _, _, rfl, _⟩ := h; rfl) | (obtain ⟨_, _, _, _, _, _, _, _, _, _, _, _, _, _, _, _, _, _, _, _, rfl, _⟩ := h; rfl) | (obtain ⟨_, _, _, _, _, _, _, _, _, _, _, _, _, _, _, _, _, _, _, _, _, rfl, _⟩ := h; rfl)
  · obtain ⟨p, t, S, row, rfl, hp, k⟩ := h
    obtain ⟨dx, fs, e, l1, l2, l3⟩ := hp.ob
    refine ⟨_, PSs.nox (pss_one (ps_ret (pe_ix ix_tup (pe_fld (pv 0) rfl) (pe_op op_mod (pv 1) (pe_callB call_lenQ (by rfl) T.f_len PySem.boot_len (pa_cons (pe_fld (pv 0) rfl) pa_nil))) (fun _ _ => rfl)))), ?_⟩
    wtm_at "go"
    refine i_fldK e T.c_Packing T.n_Packing_row_lengths l1 ?_
    wtm_at "go"
    refine i_fldK e T.c_Packing T.n_Packing_row_lengths l1 ?_
    wtm_at "go"
    refine q_lenT hp.tp ?_
    rw [List.length_map]
    refine i_rI hp.ok.len_pos ?_
    exact i_ixT hp.tp (atI_len hp.ok row) k
def sp_Packing_rows_from (K : PySem.W.Frag) : Sp := fun vs H Q _ => ∃ (p t : Addr) (S : Sett) (row : Int), vs = [.ref p, .int row] ∧ PkPart K p t S H ∧ ∀ H', Same H H' → Q (.int (S.rowsFrom row)) H'
theorem O_Packing_rows_from (T : Tx K mg) : MF P w K mg base CX0 (He.ga K "Packing") "rows_from" ["self", "row"] 2 (sp_Packing_rows_from K) := by
  have O_Packing_length := O_Packing_length (P := P) (w := w) (base := base) T
  obtain ⟨fd, F⟩ := T.F_Packing_rows_from
  refine ⟨_, fd, ?_, T.m_Packing_rows_from, F.bindsN fun _ _ _ _ _ _ us hl => match us, hl with | [_, _], _ => rfl⟩
  refine F.ok sc_Packing_rows_from (fun vs H Q E h => ?_) (fun cdv A outer s H vs Q E hr h => ?_)
  · first | (obtain ⟨rfl, _⟩ := h; rfl) | (obtain ⟨_, rfl, _⟩ := h; rfl) | (obtain ⟨_, _, rfl, _⟩ := h; rfl) | (obtain ⟨_, _, _, rfl, _⟩ := h; rfl) | (obtain ⟨_, _, _, _, rfl, _⟩ := h; rfl) | (obtain ⟨_, _, _, _, _, rfl, _⟩ := h; rfl) | (obtain ⟨_, _, _, _, _, _, rfl, _⟩ := h; rfl) | (obtain ⟨_, _, _, _, _, _, _, rfl, _⟩ := h; rfl) | (obtain ⟨_, _, _, _, _, _, _, _, rfl, _⟩ := h; rfl) | (obtain ⟨_, _, _, _, _, _, _, _, _, rfl, _⟩ := h; rfl) | (obtain ⟨_, _, _, _, _, _, _, _, _, _, rfl, _⟩ := h; rfl) | (obtain ⟨_, _, _, _, _, _, _, _, _, _, _, rfl, _⟩ := h; rfl) | (obtain ⟨_, _, _, _, _, _, _, _, _, _, _, _, rfl, _⟩ := h; rfl) | (obtain ⟨_, _, _, _, _, _, _, _, _, _, _, _, _, rfl, _⟩ := h; rfl) | (obtain ⟨_, _, _, _, _, _, _, _, _, _, _, _, _, _, rfl, _⟩ := h; rfl) | (obtain ⟨_, _, _, _, _, _, _, _, _, _, _, _, _, _, _, rfl, _⟩ := h; rfl) | (obtain ⟨_, _, _, _, _, _, _, _, _, _, _, _, _, _, _, _, rfl, _⟩ := h; rfl) | (obtain ⟨_, _, _, _, _, _, _, _, _, _, _, _, _, _, _, _, _, rfl, _⟩ := h; rfl) | (obtain ⟨_, _, _, _, _, _, _, _, _, _, _, _, _, _, _, _, _, _, rfl, _⟩ := h; rfl) | (obtain ⟨_, _, _, _, _, _, _, _, _, _, _, _, _, _, _, _, _, _, _, rfl, _⟩ := h; rfl) | (obtain ⟨_, _, _, _, _, _, _, _, _, _, _, _, _, _, _, _, _, _, _, _, rfl, _⟩ := h; rfl) | (obtain ⟨_, _, _, _, _, _, _, _, _, _, _, _, _, _, _, _, _, _, _, _, _, rfl, _⟩ := h; rfl)
  · obtain ⟨p, t, S, row, rfl, hp, k⟩ := h
    obtain ⟨dx, fs, e, l1, l2, l3⟩ := hp.ob
    refine ⟨_, PSs.nox (pss_cons (ps_asg (pe_tup (pa_cons pe_int (pa_cons pe_int pa_nil))) (pg_tup rfl (pgs_cons (pg_name (i := 2) sc_Packing_rows_from.nd rfl (Or.inl rfl)) (pgs_cons (pg_name (i := 3) sc_Packing_rows_from.nd rfl (Or.inl rfl)) pgs_nil))))
  (pss_cons (ps_while PassesOwn.never (pt_cmpR op_le (pe_op op_add (pv 3) (pm O_Packing_length T.c_Packing hr pass0 (pv 0) (pa_cons (pe_op op_add (pv 1) (pv 2)) pa_nil))) (pe_fld (pv 0) rfl) (nomark _))
  (pss_cons (ps_aug (i := 3) sc_Packing_rows_from.nd rfl (Or.inl rfl) (pm O_Packing_length T.c_Packing hr pass0 (pv 0) (pa_cons (pe_op op_add (pv 1) (pv 2)) pa_nil)) ip_add)
  (pss_one (ps_aug (i := 2) sc_Packing_rows_from.nd rfl (Or.inl rfl) pe_int ip_add))))
  (pss_one (ps_ret (pv 2))))), ?_⟩
    wtm_at "go"
    refine i_tupK (by decide) fun b H1 nb hb s1 => ?_
    wtm_at "go"
    refine i_gtupK hb rfl ?_
    wtm_at "go"
    replace e := s1 _ _ e
    replace hp := hp.same s1
    refine i_whileR (fun m σ H' => H' = H1 ∧ ∃ (f u : Int), σ = [some (.ref p), some (.int row), some (.int f), some (.int u)] ∧ 0 ≤ f ∧ f ≤ u ∧ u ≤ S.size ∧ f + m = 65 ∧ S.fill row m f u = S.rowsFrom row) 65 ?_ ?_
    · exact ⟨rfl, 0, 0, rfl, by omega, by omega, (by have := hp.ok.size1; omega), by omega, rfl⟩
    · rintro m σ H' ⟨rfl, f, u, rfl, h0, h1, h2, h3, h4⟩
      have hz := hp.ok.size
      wtm_at "go"
      refine i_methK e l3 ?_
      wtm_at "go"
      refine ⟨p, t, S, row + f, rfl, hp, ?_⟩
      wtm_at "go"
      refine i_fldK e T.c_Packing T.n_Packing_room l2 ?_
      wtm_at "go"
      obtain ⟨j, rfl⟩ : ∃ j, m = j + 1 := ⟨m - 1, by omega⟩
      rw [Sett.fill] at h4
      by_cases hc : u + S.lenAt (row + f) ≤ S.size
      · rw [decide_eq_true hc]
        rw [if_pos hc] at h4
        refine iteT ⟨_, fun _ _ z => z, ?_⟩
        wtm_at "go"
        refine i_methK e l3 ?_
        wtm_at "go"
        refine ⟨p, t, S, row + f, rfl, hp, ?_⟩
        wtm_at "go"
        have := (hp.ok.lenAt (row + f)).1
        exact ⟨j, Nat.lt_succ_self j, rfl, _, _, rfl, by omega, by omega, hc, by omega, h4⟩
      · rw [decide_eq_false hc]
        rw [if_neg hc] at h4
        refine iteF ?_
        wtm_at "go"
        rw [h4]
        exact k _ s1
def sp_Packing_start (K : PySem.W.Frag) : Sp := fun vs H Q _ => ∃ (p t l : Addr) (S : Sett) (n : Nat), vs = [.ref p, .int n] ∧ PackAt K p t l S H ∧ ∀ H', Same H H' → Q (.int (S.at n)) H'
theorem O_Packing_start (T : Tx K mg) : MF P w K mg base CX0 (He.ga K "Packing") "start" ["self", "page"] 1 (sp_Packing_start K) := by
  obtain ⟨fd, F⟩ := T.F_Packing_start
  refine ⟨_, fd, ?_, T.m_Packing_start, F.bindsN fun _ _ _ _ _ _ us hl => match us, hl with | [_, _], _ => rfl⟩
  refine F.ok sc_Packing_start (fun vs H Q E h => ?_) (fun cdv A outer s H vs Q E hr h => ?_)
  · first | (obtain ⟨rfl, _⟩ := h; rfl) | (obtain ⟨_, rfl, _⟩ := h; rfl) | (obtain ⟨_, _, rfl, _⟩ := h; rfl) | (obtain ⟨_, _, _, rfl, _⟩ := h; rfl) | (obtain ⟨_, _, _, _, rfl, _⟩ := h; rfl) | (obtain ⟨_, _, _, _, _, rfl, _⟩ := h; rfl) | (obtain ⟨_, _, _, _, _, _, rfl, _⟩ := h; rfl) | (obtain ⟨_, _, _, _, _, _, _, rfl, _⟩ := h; rfl) | (obtain ⟨_, _, _, _, _, _, _, _, rfl, _⟩ := h; rfl) | (obtain ⟨_, _, _, _, _, _, _, _, _, rfl, _⟩ := h; rfl) | (obtain ⟨_, _, _, _, _, _, _, _, _, _, rfl, _⟩ := h; rfl) | (obtain ⟨_, _, _, _, _, _, _, _, _, _, _, rfl, _⟩ := h; rfl) | (obtain ⟨_, _, _, _, _, _, _, _, _, _, _, _, rfl, _⟩ := h; rfl) | (obtain ⟨_, _, _, _, _, _, _, _, _, _, _, _, _, rfl, _⟩ := h; rfl) | (obtain ⟨_, _, _, _, _, _, _, _, _, _, _, _, _, _, rfl, _⟩ := h; rfl) | (obtain ⟨_, _, _, _, _, _, _, _, _, _, _, _, _, _, _, rfl, _⟩ := h; rfl) | (obtain ⟨_, _, _, _, _, _, _, _, _, _, _, _, _, _, _, _, rfl, _⟩ := h; rfl) | (obtain ⟨_, _, _, _, _, _, _, _, _, _, _, _, _, _, _, _, _, rfl, _⟩ := h; rfl) | (obtain ⟨_, _, _, _, _, _, _, _, _, _, _, _, _, _, _, _, _, _, rfl, _⟩ := h; rfl) | (obtain ⟨_, _, _, _, _, _, _, _, _, _, _, _, _, _, _, _, _, _, _, rfl, _⟩ := h; rfl) | (obtain ⟨_, _, _, _, _, _, _, _, _, _, _, _, _, _, _, _, _, _, _, _, rfl, _⟩ := h; rfl) | (obtain ⟨_, _, _, _, _, _, _, _, _, _, _, _, _, _, _, _, _, _, _, _, _, rfl, _⟩ := h; rfl)
  · obtain ⟨p, t, l, S, n, rfl, hp, k⟩ := h
    obtain ⟨dx, q, hq, e, hl⟩ := hp.ob
    have hlen : ((List.range (q.n + 1)).map fun j => V.int (S.at j)).length = q.n + 1 := by simp
    have hat : ∀ j : Nat, j ≤ q.n → atI ((List.range (q.n + 1)).map fun j => V.int (S.at j)) (j : Int) = some (.int (S.at j)) := fun j hj => atI_nat (by rw [List.getElem?_map, List.getElem?_range (by omega)]; rfl)
    have q1 := hq.lt
    have q6 := hq.n6
    refine ⟨_, PSs.nox (pss_cons (ps_if (pt_cmpR op_lt (pv 1) (pe_fld (pv 0) rfl) (nomark _))
  (pss_one (ps_ret (pe_ix ix_list (pe_fld (pv 0) rfl) (pv 1) (fun _ _ => rfl))))
  pss_nil)
  (pss_cons (ps_asg (pe_callB call_divmodQ (by rfl) T.f_divmod (by decide +kernel) (pa_cons (pe_op op_sub (pv 1) (pe_fld (pv 0) rfl)) (pa_cons (pe_fld (pv 0) rfl) pa_nil))) (pg_tup rfl (pgs_cons (pg_name (i := 2) sc_Packing_start.nd rfl (Or.inl rfl)) (pgs_cons (pg_name (i := 3) sc_Packing_start.nd rfl (Or.inl rfl)) pgs_nil))))
  (pss_one (ps_ret (pe_op op_add (pe_ix ix_list (pe_fld (pv 0) rfl) (pe_op op_add (pe_fld (pv 0) rfl) (pv 3)) (fun _ _ => rfl)) (pe_op op_mul (pv 2) (pe_fld (pv 0) rfl))))))), ?_⟩
    wtm_at "go"
    refine i_fldK e T.c_Packing T.n_Packing_first packF_first ?_
    wtm_at "go"
    by_cases hn : (n : Int) < q.i
    · rw [decide_eq_true hn]
      refine iteT ?_
      wtm_at "go"
      refine i_fldK e T.c_Packing T.n_Packing_starts packF_starts ?_
      wtm_at "go"
      exact i_ixL hl (hat n (by omega)) (k H (Same.refl H))
    · rw [decide_eq_false hn]
      refine iteF ?_
      wtm_at "go"
      refine i_fldK e T.c_Packing T.n_Packing_first packF_first ?_
      wtm_at "go"
      refine i_fldK e T.c_Packing T.n_Packing_pages packF_pages ?_
      wtm_at "go"
      refine q_divmod ⟨by omega, by omega⟩ fun b H1 nb hb s1 => ?_
      wtm_at "go"
      refine i_gtupK hb rfl ?_
      wtm_at "go"
      have e1 := s1 _ _ e
      refine i_fldK e1 T.c_Packing T.n_Packing_starts packF_starts ?_
      wtm_at "go"
      refine i_fldK e1 T.c_Packing T.n_Packing_first packF_first ?_
      wtm_at "go"
      obtain ⟨d, rfl⟩ : ∃ d, n = q.i + d := ⟨n - q.i, by omega⟩
      have ed : (((q.i + d : Nat) : Int) - q.i) = (d : Int) := by omega
      have ep : ((q.n : Int) - q.i) = ((q.n - q.i : Nat) : Int) := by omega
      have er := at_period_cast (S := S) hq.lt hq.eq d
      have em : (q.i : Int) + (((q.i + d : Nat) : Int) - q.i) % ((q.n : Int) - q.i) = ((q.i + d % (q.n - q.i) : Nat) : Int) := by rw [ed, ep]; omega
      have hm := Nat.mod_lt d (show 0 < q.n - q.i by omega)
      refine i_ixL (s1 _ _ hl) (v := .int (S.at (q.i + d % (q.n - q.i)))) (by rw [em]; exact hat _ (by omega)) ?_
      wtm_at "go"
      refine i_fldK e1 T.c_Packing T.n_Packing_rows packF_rows ?_
      refine i_rI (.inr ?_) ?_
      · have b1 := (Sett.at_bound hp.ok q.n).2
        have b2 := (Sett.at_bound hp.ok q.i).1
        have b3 := Sett.at_le hp.ok (Nat.le_of_lt q1)
        have b4 := hp.ok.size
        have b5 : S.size * q.n ≤ 64 * 6 := by
          have := hp.ok.size1
          exact Int.mul_le_mul b4 (by omega) (by omega) (by omega)
        omega
      · wtm_at "go"
        rw [ed, ep, ← Int.natCast_ediv, ← er]
        exact k H1 s1
end
end K90


namespace K90
open PySem PySem.Spec PyProof.Rows L2 KR
local macro_rules | `(tactic| wtm_at "go1") => `(tactic| first
  | (with_reducible refine i_seq ?_) | ((with_reducible refine' i_var ?k1 ?_); (case k1 => exact rfl)) | (with_reducible refine i_c ?_) | (with_reducible refine i_asg ?_) | (with_reducible refine i_name ?_)
  | (with_reducible refine i_ret ?_) | (with_reducible refine i_retN ?_) | (with_reducible refine i_drop ?_) | (with_reducible refine i_next ?_) | (with_reducible refine i_op ?_) | (with_reducible refine i_rI0 ?_)
  | (with_reducible refine i_fld ?_) | (with_reducible refine i_setf ?_) | (with_reducible refine i_augf ?_) | (with_reducible refine i_meth ?_) | (with_reducible refine i_cons ?_) | (with_reducible refine i_nil ?_)
  | (with_reducible refine i_call ?_) | (with_reducible refine i_cb ?_) | (with_reducible refine i_test ?_) | (with_reducible refine i_tB ?_) | (with_reducible refine i_bl ?_) | (with_reducible refine i_not ?_)
  | (with_reducible refine i_if ?_) | (with_reducible refine i_ifE ?_) | (with_reducible refine i_andV ?_) | (with_reducible refine i_orV ?_) | (with_reducible refine i_notV ?_) | (with_reducible refine i_and ?_) | (with_reducible refine i_or ?_)
  | (with_reducible refine i_rEqI ?_) | (with_reducible refine i_rNeI ?_) | (with_reducible refine i_un ?_) | (with_reducible refine i_rU ?_) | (with_reducible refine i_chain ?_) | (with_reducible refine i_tpar ?_) | (with_reducible refine i_par ?_) | (with_reducible refine i_tpar3 ?_) | (with_reducible refine i_par3 ?_)
  | ((with_reducible refine' i_aug ?k1 ?_); (case k1 => exact rfl)) | (with_reducible refine i_ipI ?_) | (with_reducible refine i_tup ?_) | (with_reducible refine i_lst ?_) | (with_reducible refine i_bm ?_) | (with_reducible refine i_bm0 ?_)
  | (with_reducible refine i_for ?_) | (with_reducible refine i_list ?_) | (with_reducible refine i_rng1 ?_) | (with_reducible refine i_keys ?_) | (with_reducible refine i_lc ?_) | (with_reducible refine i_yes ?_) | (with_reducible refine i_dput ?_)
  | (with_reducible refine i_dget ?_) | (with_reducible refine i_din ?_) | (with_reducible refine i_dnotin ?_) | (with_reducible refine i_dget1 ?_) | (with_reducible refine i_dget2 ?_) | (with_reducible refine i_dpop2 ?_)
  | (with_reducible refine q_max2 ?_) | (with_reducible refine q_min2 ?_) | (with_reducible refine q_notN ?_) | (with_reducible refine q_isN ?_) | (with_reducible refine i_gtup ?_) | (with_reducible refine i_gcons ?_) | (with_reducible refine i_gnil ?_) | (with_reducible refine i_make ?_) | (with_reducible refine i_dnewK ?_) | (with_reducible refine i_dnewT ?_)
  | (with_reducible refine q_int1 ?_) | (with_reducible refine q_int1b ?_) | (with_reducible refine i_sl ?_) | (with_reducible refine i_npart ?_) | (with_reducible refine i_part ?_) | (with_reducible refine i_pint ?_) | (with_reducible refine i_pcons ?_) | (with_reducible refine i_pnil ?_) | (with_reducible refine i_gsub ?_) | (with_reducible refine i_makeKw ?_)
  | (with_reducible refine i_rAdd ?_) | (with_reducible refine i_rSub ?_) | (with_reducible refine i_isN ?_))
local macro_rules | `(tactic| wtm_at "go") => `(tactic| repeat (wtm_at "go1"))

/-- what was tracked elsewhere is as it was -/
def But (p : Addr) (H H' : Hp) : Prop := ∀ b o, H b = some o → b ≠ p → H' b = some o
theorem But.refl (p : Addr) (H : Hp) : But p H H := fun _ _ e _ => e
theorem But.trans {p : Addr} {H H1 H2 : Hp} (x : But p H H1) (y : But p H1 H2) : But p H H2 := fun b o e n => y b o (x b o e n) n
theorem But.same {p : Addr} {H H' : Hp} (s : Same H H') : But p H H' := fun b o e _ => s b o e
theorem But.at_ {p : Addr} {H H' : Hp} (n : ∀ b, b ≠ p → H' b = H b) : But p H H' := fun b o e hb => (n b hb).trans e
theorem But.new {p q : Addr} {H0 H H' : Hp} (s : But p H0 H) (hq : H0 q = none) (n : ∀ b, b ≠ q → H' b = H b) : But p H0 H' := fun b o e hb => by
  rw [n b (fun z => by rw [z, hq] at e; cases e)]
  exact s b o e hb
def seenV (S : Sett) (k : Nat) : List (Key × V) := (List.range k).map fun j => (Sum.inl (S.res j), V.int (j : Int))
def startsV (S : Sett) (k : Nat) : List V := (List.range (k + 1)).map fun j => V.int (S.at j)
theorem startsV_succ (S : Sett) (k : Nat) : startsV S k ++ [V.int (S.at k + S.rowsFrom (S.at k))] = startsV S (k + 1) := by
  unfold startsV
  rw [List.range_succ (n := k + 1), List.map_append]
  rfl
theorem startsV_len (S : Sett) (k : Nat) : (startsV S k).length = k + 1 := by simp [startsV]
theorem startsV_last (S : Sett) (k : Nat) : atI (startsV S k) (-1) = some (.int (S.at k)) := by
  unfold startsV
  rw [List.range_succ, List.map_append]
  exact atI_last _ _
theorem startsV_at (S : Sett) {k j : Nat} (h : j ≤ k) : atI (startsV S k) (j : Int) = some (.int (S.at j)) := atI_nat (by
  unfold startsV
  rw [List.getElem?_map, List.getElem?_range (by omega)]
  rfl)
theorem seenV_get (S : Sett) : ∀ k : Nat, ((List.range k).map S.res).Nodup → ∀ x : Int, valV (seenV S k) (.inl x) = ((List.range k).find? fun j => decide (S.res j = x)).map fun (j : Nat) => V.int (j : Int) := fun k _ x => by
  unfold seenV valV
  rw [List.find?_map]
  have e : ((fun kv : Key × V => decide (kv.1 = Sum.inl x)) ∘ fun j : Nat => ((Sum.inl (S.res j) : Key), V.int (j : Int))) = fun j => decide (S.res j = x) := by
    funext j
    simp
  rw [e, Option.map_map]
  rfl
theorem seenV_put (S : Sett) (k : Nat) (h : valV (seenV S k) (.inl (S.res k)) = none) : putK (seenV S k) (.inl (S.res k)) (.int (k : Int)) = seenV S (k + 1) := by
  unfold putK
  rw [valV_any, h]
  rw [if_neg (by simp)]
  unfold seenV
  rw [List.range_succ, List.map_append]
  rfl
section
variable {P : Program} {w : World} {K : PySem.W.Frag} {mg : Str → Option Value} {base : Heap}
def sp_Packing_init (K : PySem.W.Frag) : Sp := fun vs H Q _ => ∃ (p dx ps ts : Addr) (S : Sett), vs = [.ref p, .ref ps] ∧ H p = some (.ins (He.ga K "Packing") dx []) ∧ SetAt K ps ts S H ∧ ∀ H' ls, PackAt K p ts ls S H' → But p H H' → H ls = none → Q .non H'
theorem O_Packing_init (T : Tx K mg) : KF P w K mg base CX0 "Packing" (He.ga K "Packing") ["self", "settings"] 3 (sp_Packing_init K) := by
  have O_check_settings := O_check_settings (P := P) (w := w) (base := base) T
  have O_Packing_rows_from := O_Packing_rows_from (P := P) (w := w) (base := base) T
  obtain ⟨fd, F⟩ := T.F_Packing_init
  refine ⟨_, fd, ?_, T.k_Packing, T.g_Packing, F.bindsN fun _ _ _ _ _ _ us hl => match us, hl with | [_, _], _ => rfl⟩
  refine F.ok sc_Packing_init (fun vs H Q E h => ?_) (fun cdv A outer s H vs Q E hr h => ?_)
  · first | (obtain ⟨rfl, _⟩ := h; rfl) | (obtain ⟨_, rfl, _⟩ := h; rfl) | (obtain ⟨_, _, rfl, _⟩ := h; rfl) | (obtain ⟨_, _, _, rfl, _⟩ := h; rfl) | (obtain ⟨_, _, _, _, rfl, _⟩ := h; rfl) | (obtain ⟨_, _, _, _, _, rfl, _⟩ := h; rfl) | (obtain ⟨_, _, _, _, _, _, rfl, _⟩ := h; rfl) | (obtain ⟨_, _, _, _, _, _, _, rfl, _⟩ := h; rfl) | (obtain ⟨_, _, _, _, _, _, _, _, rfl, _⟩ := h; rfl) | (obtain ⟨_, _, _, _, _, _, _, _, _, rfl, _⟩ := h; rfl) | (obtain ⟨_, _, _, _, _, _, _, _, _, _, rfl, _⟩ := h; rfl) | (obtain ⟨_, _, _, _, _, _, _, _, _, _, _, rfl, _⟩ := h; rfl) | (obtain ⟨_, _, _, _, _, _, _, _, _, _, _, _, rfl, _⟩ := h; rfl) | (obtain ⟨_, _, _, _, _, _, _, _, _, _, _, _, _, rfl, _⟩ := h; rfl) | (obtain ⟨_, _, _, _, _, _, _, _, _, _, _, _, _, _, rfl, _⟩ := h; rfl) | (obtain ⟨_, _, _, _, _, _, _, _, _, _, _, _, _, _, _, rfl, _⟩ := h; rfl) | (obtain ⟨_, _, _, _, _, _, _, _, _, _, _, _, _, _, _, _, rfl, _⟩ := h; rfl) | (obtain ⟨_, _, _, _, _, _, _, _, _, _, _, _, _, _, _, _, _, rfl, _⟩ := h; rfl) | (obtain ⟨_, _, _, _, _, _, _, _, _, _, _, _, _, _, _, _, _, _, rfl, _⟩ := h; rfl) | (obtain ⟨_, _, _, _, _, _, _, _, _, _, _, _, _, _, _, _, _, _, _, rfl, _⟩ := h; rfl) | (obtain ⟨_, _, _, _, _, _, _, _, _, _, _, _, _, _, _, _, _, _, _, _, rfl, _⟩ := h; rfl) | (obtain ⟨_, _, _, _, _, _, _, _, _, _, _, _, _, _, _, _, _, _, _, _, _, rfl, _⟩ := h; rfl)
  · obtain ⟨p, dx, ps, ts, S, rfl, e0, hs, k⟩ := h
    have hS := hs.ok
    obtain ⟨dxs, es⟩ := hs.ob
    have pps : p ≠ ps := ne_of e0 es (by intro z; have z2 := (HO.ins.inj z).2.2; unfold setF at z2; cases z2)
    have ppt : p ≠ ts := ne_of e0 hs.tp (by intro z; cases z)
    refine ⟨_, PSs.nox (pss_cons (ps_expr (pg O_check_settings hr pass0 (pa_cons (pv 1) pa_nil)))
  (pss_cons (ps_fld (pv 0) (pe_fld (pv 1) rfl) rfl)
  (pss_cons (ps_fld (pv 0) (pe_fld (pv 1) rfl) rfl)
  (pss_cons (ps_fld (pv 0) (pe_lst (pa_cons pe_int pa_nil)) rfl)
  (pss_cons (ps_set (i := 2) sc_Packing_init.nd rfl (Or.inl rfl) pe_dnewK)
  (pss_cons (ps_while PassesOwn.never (pt_cmp (pc_dnotin (hu_of hr) (pe_op op_mod (pe_ix ix_list (pe_fld (pv 0) rfl) (pe_un un_neg pe_int) (fun _ _ => rfl)) (pe_callB call_lenQ (by rfl) T.f_len PySem.boot_len (pa_cons (pe_fld (pv 0) rfl) pa_nil))) (pv 2)))
  (pss_cons (ps_dput (hu_of hr) (pv 2) (pe_op op_mod (pe_ix ix_list (pe_fld (pv 0) rfl) (pe_un un_neg pe_int) (fun _ _ => rfl)) (pe_callB call_lenQ (by rfl) T.f_len PySem.boot_len (pa_cons (pe_fld (pv 0) rfl) pa_nil))) (pe_op op_sub (pe_callB call_lenQ (by rfl) T.f_len PySem.boot_len (pa_cons (pe_fld (pv 0) rfl) pa_nil)) pe_int) rfl)
  (pss_one (ps_expr (pe_bm PySem.F.plainAttrs_list PySem.F.slot_list_append PySem.F.type_list_append mt_append (pe_fld (pv 0) rfl) (pa_cons (pe_op op_add (pe_ix ix_list (pe_fld (pv 0) rfl) (pe_un un_neg pe_int) (fun _ _ => rfl)) (pm O_Packing_rows_from T.c_Packing hr pass0 (pv 0) (pa_cons (pe_ix ix_list (pe_fld (pv 0) rfl) (pe_un un_neg pe_int) (fun _ _ => rfl)) pa_nil))) pa_nil))))))
  (pss_cons (ps_fld (pv 0) (pe_dget (hu_of hr) (pv 2) (pe_op op_mod (pe_ix ix_list (pe_fld (pv 0) rfl) (pe_un un_neg pe_int) (fun _ _ => rfl)) (pe_callB call_lenQ (by rfl) T.f_len PySem.boot_len (pa_cons (pe_fld (pv 0) rfl) pa_nil))) (fun _ _ => rfl)) rfl)
  (pss_cons (ps_fld (pv 0) (pe_op op_sub (pe_op op_sub (pe_callB call_lenQ (by rfl) T.f_len PySem.boot_len (pa_cons (pe_fld (pv 0) rfl) pa_nil)) pe_int) (pe_fld (pv 0) rfl)) rfl)
  (pss_one (ps_fld (pv 0) (pe_op op_sub (pe_ix ix_list (pe_fld (pv 0) rfl) (pe_un un_neg pe_int) (fun _ _ => rfl)) (pe_ix ix_list (pe_fld (pv 0) rfl) (pe_fld (pv 0) rfl) (fun _ _ => rfl))) rfl)))))))))), ?_⟩
    wtm_at "go"
    refine ⟨ps, ts, S, rfl, hs, ?_⟩
    wtm_at "go"
    refine i_fldK es T.c_Settings T.n_Settings_lengths setF_lengths ?_
    wtm_at "go"
    refine i_setKo e0 T.c_Packing T.n_Packing_row_lengths (of_decide_eq_true (by kernel_rfl)) fun H1 e1 n1 => ?_
    have es1 := (n1 ps pps.symm).trans es
    have tp1 := (n1 ts ppt.symm).trans hs.tp
    wtm_at "go"
    refine i_fldK es1 T.c_Settings T.n_Settings_size setF_size ?_
    wtm_at "go"
    refine i_setKo e1 T.c_Packing T.n_Packing_room (of_decide_eq_true (by kernel_rfl)) fun H2 e2 n2 => ?_
    have tp2 := (n2 ts ppt.symm).trans tp1
    wtm_at "go"
    refine i_lstK (by decide) fun ls H3 nl hl s3 => ?_
    wtm_at "go"
    have npl : p ≠ ls := ne_of_none e2 nl
    have e3 := s3 _ _ e2
    refine i_setKo e3 T.c_Packing T.n_Packing_starts (of_decide_eq_true (by kernel_rfl)) fun H4 e4 n4 => ?_
    have hl4 := (n4 ls npl.symm).trans hl
    have tp4 := (n4 ts ppt.symm).trans (s3 _ _ tp2)
    have nlH : H ls = none := by
      cases q : H ls with
      | none => rfl
      | some o => rw [n2 ls npl.symm, n1 ls npl.symm, q] at nl; cases nl
    have k4 : But p H H4 := (((But.at_ n1).trans (But.at_ n2)).trans (But.same s3)).trans (But.at_ n4)
    wtm_at "go"
    intro d H5 nd hd s5
    wtm_at "go"
    have e5 := s5 _ _ e4
    have hl5 := s5 _ _ hl4
    have tp5 := s5 _ _ tp4
    have ndH : H d = none := by
      cases q : H d with
      | none => rfl
      | some o =>
        have := k4 d o q (fun z => by rw [z, e4] at nd; cases nd)
        rw [this] at nd; cases nd
    refine i_whileR (fun m σ H' => ∃ j : Nat, m + j = 7 ∧ σ = [some (.ref p), some (.ref ps), some (.ref d)] ∧ H' p = some (.ins (He.ga K "Packing") dx (putF "starts" (.ref ls) (putF "room" (.int S.size) (putF "row_lengths" (.ref ts) [])))) ∧
      H' ls = some (.lst (startsV S j)) ∧ H' d = some (.dK (seenV S j)) ∧ H' ts = some (.tup (S.lengths.map V.int)) ∧ ((List.range j).map S.res).Nodup ∧ But p H H') 7 ?_ ?_
    · exact ⟨0, rfl, rfl, e5, hl5, hd, tp5, List.nodup_nil, k4.trans (But.same s5)⟩
    · rintro m σ H' ⟨j, hm, rfl, ep, el, ed, et, nd0, kp⟩
      have hnl : p ≠ ls := npl
      have hnd : p ≠ d := ne_of ep ed (by intro z; cases z)
      have hld : ls ≠ d := ne_of el ed (by intro z; cases z)
      have htl : ts ≠ ls := ne_of et el (by intro z; cases z)
      have htd : ts ≠ d := ne_of et ed (by intro z; cases z)
      have hj : j ≤ 6 := by
        have h1 := pigeon S.lengths.length _ nd0 fun x hx => by
          obtain ⟨i, _, rfl⟩ := List.mem_map.mp hx
          exact Sett.res_nonneg hS i
        have h2 := hS.l6
        simp at h1
        omega
      have L1 : (putF "starts" (.ref ls) (putF "room" (.int S.size) (putF "row_lengths" (.ref ts) []))).lookup ("starts" : Str) = some (V.ref ls) := by kernel_rfl
      have L2' : (putF "starts" (.ref ls) (putF "room" (.int S.size) (putF "row_lengths" (.ref ts) []))).lookup ("row_lengths" : Str) = some (V.ref ts) := by kernel_rfl
      have L3 : (putF "starts" (.ref ls) (putF "room" (.int S.size) (putF "row_lengths" (.ref ts) []))).lookup ("room" : Str) = some (V.int S.size) := by kernel_rfl
      have L4 : (putF "starts" (.ref ls) (putF "room" (.int S.size) (putF "row_lengths" (.ref ts) []))).lookup ("length" : Str) = none := by kernel_rfl
      have L5 : (putF "starts" (.ref ls) (putF "room" (.int S.size) (putF "row_lengths" (.ref ts) []))).lookup ("rows_from" : Str) = none := by kernel_rfl
      wtm_at "go"
      refine i_fldK ep T.c_Packing T.n_Packing_starts L1 ?_
      wtm_at "go"
      refine i_ixL el (startsV_last S j) ?_
      wtm_at "go"
      refine i_fldK ep T.c_Packing T.n_Packing_row_lengths L2' ?_
      wtm_at "go"
      refine q_lenT et ?_
      rw [List.length_map]
      refine i_rI hS.len_pos ?_
      wtm_at "go"
      refine i_dinK (ky := .inl (S.res j)) ed ?_
      wtm_at "go"
      cases hv : valV (seenV S j) (.inl (S.res j)) with
      | none =>
        refine iteT ⟨_, fun _ _ z => z, ?_⟩
        wtm_at "go"
        refine i_fldK ep T.c_Packing T.n_Packing_starts L1 ?_
        wtm_at "go"
        refine q_lenL el ?_
        wtm_at "go"
        refine i_fldK ep T.c_Packing T.n_Packing_starts L1 ?_
        wtm_at "go"
        refine i_ixL el (startsV_last S j) ?_
        wtm_at "go"
        refine i_fldK ep T.c_Packing T.n_Packing_row_lengths L2' ?_
        wtm_at "go"
        refine q_lenT et ?_
        rw [List.length_map]
        refine i_rI hS.len_pos ?_
        rw [show (((startsV S j).length : Int) - 1) = (j : Int) by rw [startsV_len]; omega]
        refine i_dputK (ky := .inl (S.res j)) ed (by simp [seenV, sizeLine]; omega) fun H6 ed6 n6 => ?_
        rw [seenV_put S j hv] at ed6
        have ep6 := (n6 p hnd).trans ep
        have el6 := (n6 ls hld).trans el
        have et6 := (n6 ts htd).trans et
        wtm_at "go"
        refine i_fldK ep6 T.c_Packing T.n_Packing_starts L1 ?_
        refine i_bmL el6 ?_
        wtm_at "go"
        refine i_fldK ep6 T.c_Packing T.n_Packing_starts L1 ?_
        wtm_at "go"
        refine i_ixL el6 (startsV_last S j) ?_
        wtm_at "go"
        refine i_methK ep6 L5 ?_
        wtm_at "go"
        refine i_fldK ep6 T.c_Packing T.n_Packing_starts L1 ?_
        wtm_at "go"
        refine i_ixL el6 (startsV_last S j) ?_
        wtm_at "go"
        refine ⟨p, ts, S, S.at j, rfl, ⟨⟨dx, _, ep6, L2', L3, L4⟩, et6, hS⟩, fun H7 s7 => ?_⟩
        wtm_at "go"
        refine i_app (s7 _ _ el6) (by rw [startsV_len]; simp [sizeLine]; omega) fun H8 el8 n8 => ?_
        rw [startsV_succ] at el8
        refine ⟨m - 1, by omega, j + 1, by omega, rfl, (n8 p hnl).trans (s7 _ _ ep6), el8, (n8 d hld.symm).trans (s7 _ _ ed6), (n8 ts htl).trans (s7 _ _ et6), ?_, ?_⟩
        · rw [List.range_succ, List.map_append]
          refine List.nodup_append.mpr ⟨nd0, by simp, fun x hx y hy => ?_⟩
          simp at hy
          subst hy
          intro z
          subst z
          obtain ⟨i, hi, ei⟩ := List.mem_map.mp hx
          rw [seenV_get S j nd0] at hv
          have h9 := Option.map_eq_none_iff.mp hv
          have h10 := List.find?_eq_none.mp h9 i hi
          simp [ei] at h10
        · exact But.new ((But.new kp ndH n6).trans (But.same s7)) nlH n8
      | some v =>
        refine iteF ?_
        rw [seenV_get S j nd0] at hv
        obtain ⟨i, hi, rfl⟩ := Option.map_eq_some_iff.mp hv
        have hi1 : S.res i = S.res j := by simpa using List.find?_some hi
        have hi2 : i < j := by simpa using List.mem_of_find?_eq_some hi
        wtm_at "go"
        refine i_fldK ep T.c_Packing T.n_Packing_starts L1 ?_
        wtm_at "go"
        refine i_ixL el (startsV_last S j) ?_
        wtm_at "go"
        refine i_fldK ep T.c_Packing T.n_Packing_row_lengths L2' ?_
        wtm_at "go"
        refine q_lenT et ?_
        rw [List.length_map]
        refine i_rI hS.len_pos ?_
        refine i_dgetK (ky := .inl (S.res j)) ed (v := .int (i : Int)) (by rw [seenV_get S j nd0]; exact hv) ?_
        wtm_at "go"
        refine i_setKo ep T.c_Packing T.n_Packing_first (of_decide_eq_true (by kernel_rfl)) fun H6 ep6 n6 => ?_
        have el6 := (n6 ls hnl.symm).trans el
        have M1 : (putF "first" (.int (i : Int)) (putF "starts" (.ref ls) (putF "room" (.int S.size) (putF "row_lengths" (.ref ts) [])))).lookup ("starts" : Str) = some (V.ref ls) := by kernel_rfl
        have M2 : (putF "first" (.int (i : Int)) (putF "starts" (.ref ls) (putF "room" (.int S.size) (putF "row_lengths" (.ref ts) [])))).lookup ("first" : Str) = some (V.int (i : Int)) := by kernel_rfl
        wtm_at "go"
        refine i_fldK ep6 T.c_Packing T.n_Packing_starts M1 ?_
        wtm_at "go"
        refine q_lenL el6 ?_
        wtm_at "go"
        refine i_fldK ep6 T.c_Packing T.n_Packing_first M2 ?_
        wtm_at "go"
        rw [show (((startsV S j).length : Int) - 1 - (i : Int)) = (j : Int) - i by rw [startsV_len]; omega]
        refine i_setKo ep6 T.c_Packing T.n_Packing_pages (of_decide_eq_true (by kernel_rfl)) fun H7 ep7 n7 => ?_
        have el7 := (n7 ls hnl.symm).trans el6
        have N1 : (putF "pages" (.int ((j : Int) - i)) (putF "first" (.int (i : Int)) (putF "starts" (.ref ls) (putF "room" (.int S.size) (putF "row_lengths" (.ref ts) []))))).lookup ("starts" : Str) = some (V.ref ls) := by kernel_rfl
        have N2 : (putF "pages" (.int ((j : Int) - i)) (putF "first" (.int (i : Int)) (putF "starts" (.ref ls) (putF "room" (.int S.size) (putF "row_lengths" (.ref ts) []))))).lookup ("first" : Str) = some (V.int (i : Int)) := by kernel_rfl
        wtm_at "go"
        refine i_fldK ep7 T.c_Packing T.n_Packing_starts N1 ?_
        wtm_at "go"
        refine i_ixL el7 (startsV_last S j) ?_
        wtm_at "go"
        refine i_fldK ep7 T.c_Packing T.n_Packing_starts N1 ?_
        wtm_at "go"
        refine i_fldK ep7 T.c_Packing T.n_Packing_first N2 ?_
        wtm_at "go"
        refine i_ixL el7 (startsV_at S (Nat.le_of_lt hi2)) ?_
        wtm_at "go"
        refine i_setKo ep7 T.c_Packing T.n_Packing_rows (of_decide_eq_true (by kernel_rfl)) fun H8 ep8 n8 => ?_
        refine k H8 ls ⟨⟨dx, ⟨j, i⟩, ⟨hi2, hj, hi1.symm⟩, ?_, (n8 ls hnl.symm).trans el7⟩, (n8 ts ppt.symm).trans ((n7 ts ppt.symm).trans ((n6 ts ppt.symm).trans et)), hS⟩ (((kp.trans (But.at_ n6)).trans (But.at_ n7)).trans (But.at_ n8)) nlH
        rw [ep8]
        kernel_rfl
end
end K90


namespace K90
open PySem PySem.Spec PyProof.Rows L2 KR
local macro_rules | `(tactic| wtm_at "go1") => `(tactic| first
  | (with_reducible refine i_seq ?_) | ((with_reducible refine' i_var ?k1 ?_); (case k1 => exact rfl)) | (with_reducible refine i_c ?_) | (with_reducible refine i_asg ?_) | (with_reducible refine i_name ?_)
  | (with_reducible refine i_ret ?_) | (with_reducible refine i_retN ?_) | (with_reducible refine i_drop ?_) | (with_reducible refine i_next ?_) | (with_reducible refine i_op ?_) | (with_reducible refine i_rI0 ?_)
  | (with_reducible refine i_fld ?_) | (with_reducible refine i_setf ?_) | (with_reducible refine i_augf ?_) | (with_reducible refine i_meth ?_) | (with_reducible refine i_cons ?_) | (with_reducible refine i_nil ?_)
  | (with_reducible refine i_call ?_) | (with_reducible refine i_cb ?_) | (with_reducible refine i_test ?_) | (with_reducible refine i_tB ?_) | (with_reducible refine i_bl ?_) | (with_reducible refine i_not ?_)
  | (with_reducible refine i_if ?_) | (with_reducible refine i_ifE ?_) | (with_reducible refine i_andV ?_) | (with_reducible refine i_orV ?_) | (with_reducible refine i_notV ?_) | (with_reducible refine i_and ?_) | (with_reducible refine i_or ?_)
  | (with_reducible refine i_rEqI ?_) | (with_reducible refine i_rNeI ?_) | (with_reducible refine i_un ?_) | (with_reducible refine i_rU ?_) | (with_reducible refine i_chain ?_) | (with_reducible refine i_tpar ?_) | (with_reducible refine i_par ?_) | (with_reducible refine i_tpar3 ?_) | (with_reducible refine i_par3 ?_)
  | ((with_reducible refine' i_aug ?k1 ?_); (case k1 => exact rfl)) | (with_reducible refine i_ipI ?_) | (with_reducible refine i_tup ?_) | (with_reducible refine i_lst ?_) | (with_reducible refine i_bm ?_) | (with_reducible refine i_bm0 ?_)
  | (with_reducible refine i_for ?_) | (with_reducible refine i_list ?_) | (with_reducible refine i_rng1 ?_) | (with_reducible refine i_keys ?_) | (with_reducible refine i_lc ?_) | (with_reducible refine i_yes ?_) | (with_reducible refine i_dput ?_)
  | (with_reducible refine i_dget ?_) | (with_reducible refine i_din ?_) | (with_reducible refine i_dnotin ?_) | (with_reducible refine i_dget1 ?_) | (with_reducible refine i_dget2 ?_) | (with_reducible refine i_dpop2 ?_)
  | (with_reducible refine q_max2 ?_) | (with_reducible refine q_min2 ?_) | (with_reducible refine q_notN ?_) | (with_reducible refine q_isN ?_) | (with_reducible refine i_gtup ?_) | (with_reducible refine i_gcons ?_) | (with_reducible refine i_gnil ?_) | (with_reducible refine i_make ?_) | (with_reducible refine i_dnewK ?_) | (with_reducible refine i_dnewT ?_)
  | (with_reducible refine q_int1 ?_) | (with_reducible refine q_int1b ?_) | (with_reducible refine i_sl ?_) | (with_reducible refine i_npart ?_) | (with_reducible refine i_part ?_) | (with_reducible refine i_pint ?_) | (with_reducible refine i_pcons ?_) | (with_reducible refine i_pnil ?_) | (with_reducible refine i_gsub ?_) | (with_reducible refine i_makeKw ?_)
  | (with_reducible refine i_rAdd ?_) | (with_reducible refine i_rSub ?_) | (with_reducible refine i_isN ?_))
local macro_rules | `(tactic| wtm_at "go") => `(tactic| repeat (wtm_at "go1"))

section
variable {P : Program} {w : World} {K : PySem.W.Frag} {mg : Str → Option Value} {base : Heap}
def sp_Settings_init (K : PySem.W.Frag) : Sp := fun vs H Q _ => ∃ (p dx l : Addr) (S : Sett), vs = [.ref p, .ref l, .int S.size, .int S.fanout, .int S.recs, .int S.every, .int S.keep] ∧ H p = some (.ins (He.ga K "Settings") dx []) ∧ H l = some (.lst (S.lengths.map V.int)) ∧ S.Ok ∧ ∀ H' t, SetAt K p t S H' → But p H H' → Q .non H'
theorem O_Settings_init (T : Tx K mg) : ∃ fd, FnOk P w K mg base CX0 4 (He.ma K (He.ga K "Settings") "__init__") fd ["self", "lengths", "size", "fanout", "records", "every", "keep"] (sp_Settings_init K) ∧ FnP K "__init__" "Settings.__init__" s_Settings_init (He.ma K (He.ga K "Settings") "__init__") fd := by
  have O_check_part := O_check_part (P := P) (w := w) (base := base) T
  obtain ⟨fd, F⟩ := T.F_Settings_init
  refine ⟨fd, ?_, F⟩
  refine F.ok sc_Settings_init (fun vs H Q E h => ?_) (fun cdv A outer s H vs Q E hr h => ?_)
  · first | (obtain ⟨rfl, _⟩ := h; rfl) | (obtain ⟨_, rfl, _⟩ := h; rfl) | (obtain ⟨_, _, rfl, _⟩ := h; rfl) | (obtain ⟨_, _, _, rfl, _⟩ := h; rfl) | (obtain ⟨_, _, _, _, rfl, _⟩ := h; rfl) | (obtain ⟨_, _, _, _, _, rfl, _⟩ := h; rfl) | (obtain ⟨_, _, _, _, _, _, rfl, _⟩ := h; rfl) | (obtain ⟨_, _, _, _, _, _, _, rfl, _⟩ := h; rfl) | (obtain ⟨_, _, _, _, _, _, _, _, rfl, _⟩ := h; rfl) | (obtain ⟨_, _, _, _, _, _, _, _, _, rfl, _⟩ := h; rfl) | (obtain ⟨_, _, _, _, _, _, _, _, _, _, rfl, _⟩ := h; rfl) | (obtain ⟨_, _, _, _, _, _, _, _, _, _, _, rfl, _⟩ := h; rfl) | (obtain ⟨_, _, _, _, _, _, _, _, _, _, _, _, rfl, _⟩ := h; rfl) | (obtain ⟨_, _, _, _, _, _, _, _, _, _, _, _, _, rfl, _⟩ := h; rfl) | (obtain ⟨_, _, _, _, _, _, _, _, _, _, _, _, _, _, rfl, _⟩ := h; rfl) | (obtain ⟨_, _, _, _, _, _, _, _, _, _, _, _, _, _, _, rfl, _⟩ := h; rfl) | (obtain ⟨_, _, _, _, _, _, _, _, _, _, _, _, _, _, _, _, rfl, _⟩ := h; rfl) | (obtain ⟨_, _, _, _, _, _, _, _, _, _, _, _, _, _, _, _, _, rfl, _⟩ := h; rfl) | (obtain ⟨_, _, _, _, _, _, _, _, _, _, _, _, _, _, _, _, _, _, rfl, _⟩ := h; rfl) | (obtain ⟨_, _, _, _, _, _, _, _, _, _, _, _, _, _, _, _, _, _, _, rfl, _⟩ := h; rfl) | (obtain ⟨_, _, _, _, _, _, _, _, _, _, _, _, _, _, _, _, _, _, _, _, rfl, _⟩ := h; rfl) | (obtain ⟨_, _, _, _, _, _, _, _, _, _, _, _, _, _, _, _, _, _, _, _, _, rfl, _⟩ := h; rfl)
  · obtain ⟨p, dx, l, S, rfl, e0, hl, hS, k⟩ := h
    have npl : p ≠ l := ne_of e0 hl (by intro z; cases z)
    refine ⟨_, PSs.nox (pss_cons (ps_if (PW.pt (pw_or (pt_not (pt_val (pe_callB call_isi (by rfl) T.f_isinstance (by decide +kernel) (pa_cons (pv 1) (pa_cons (pe_bltn (v := .ty "list") (by rfl) T.f_list (by decide +kernel) rfl) pa_nil))))) (pw_or1 (pt_not (pt_chain op_le op_le pe_int (pe_callB call_lenQ (by rfl) T.f_len PySem.boot_len (pa_cons (pv 1) pa_nil)) (pgi T.i_MOST_LENGTHS))))))
  (pss_one ps_never)
  pss_nil)
  (pss_cons (ps_for PassesOwn.never rfl (pi_list (pv 1)) (pg_name (i := 7) sc_Settings_init.nd rfl (Or.inl rfl))
  (pss_one (ps_expr (pg O_check_part hr pass0 (pa_cons pe_str (pa_cons (pv 7) (pa_cons pe_int (pa_cons (pgi T.i_MOST_SIZE) pa_nil))))))))
  (pss_cons (ps_expr (pg O_check_part hr pass0 (pa_cons pe_str (pa_cons (pv 2) (pa_cons (pe_callB (cr_max rfl) (by rfl) T.f_max (by decide +kernel) (pa_cons (pv 1) pa_nil)) (pa_cons (pgi T.i_MOST_SIZE) pa_nil))))))
  (pss_cons (ps_expr (pg O_check_part hr pass0 (pa_cons pe_str (pa_cons (pv 3) (pa_cons pe_int (pa_cons (pgi T.i_MOST_FANOUT) pa_nil))))))
  (pss_cons (ps_expr (pg O_check_part hr pass0 (pa_cons pe_str (pa_cons (pv 4) (pa_cons pe_int (pa_cons (pgi T.i_MOST_RECORDS) pa_nil))))))
  (pss_cons (ps_expr (pg O_check_part hr pass0 (pa_cons pe_str (pa_cons (pv 5) (pa_cons pe_int (pa_cons (pgi T.i_MOST_EVERY) pa_nil))))))
  (pss_cons (ps_expr (pg O_check_part hr pass0 (pa_cons pe_str (pa_cons (pv 6) (pa_cons pe_int (pa_cons (pgi T.i_MOST_KEEP) pa_nil))))))
  (pss_cons (ps_fld (pv 0) (pe_callTy call_tupleQ (by rfl) T.f_tuple (by decide +kernel) (pa_cons (pv 1) pa_nil)) rfl)
  (pss_cons (ps_fld (pv 0) (pv 2) rfl)
  (pss_cons (ps_fld (pv 0) (pv 3) rfl)
  (pss_cons (ps_fld (pv 0) (pv 4) rfl)
  (pss_cons (ps_fld (pv 0) (pv 5) rfl)
  (pss_one (ps_fld (pv 0) (pv 6) rfl)))))))))))))), ?_⟩
    wtm_at "go"
    refine i_isi (b := true) (ClsV.ty _) (TyX.base (TyOf.lst hl)) (kit_ty (by decide +kernel)) ?_
    wtm_at "go"
    refine iteF ?_
    wtm_at "go"
    refine q_lenL hl ?_
    have l1 := hS.l1
    have l6 := hS.l6
    wtm_at "go"
    rw [show decide ((1 : Int) ≤ ((S.lengths.map V.int).length : Int)) = true by simp; omega]
    refine iteT ?_
    wtm_at "go"
    rw [show decide (((S.lengths.map V.int).length : Int) ≤ 6) = true by simp; omega]
    refine iteF ?_
    wtm_at "go"
    refine i_listK (SqL.of hl) ?_
    refine i_forK walk_list (fun i σ H' => H' = H ∧ ∃ v, σ = [some (.ref p), some (.ref l), some (.int S.size), some (.int S.fanout), some (.int S.recs), some (.int S.every), some (.int S.keep), v]) ⟨rfl, _, rfl⟩ (fun i σ H' _ ⟨e, _⟩ => by rw [e]; exact SqL.of hl) ?_ ?_
    · rintro i x σ H' H2 hi ⟨rfl, v, rfl⟩ ⟨rfl, hx⟩
      rw [List.getElem?_map] at hx
      obtain ⟨y, hy, rfl⟩ := Option.map_eq_some_iff.mp hx
      have hb := hS.len y (List.mem_of_getElem? hy)
      have hz := hS.size
      wtm_at "go"
      refine ⟨_, y, 1, 64, rfl, hb.1, by omega, ?_⟩
      exact ⟨rfl, _, rfl⟩
    · rintro σ H' ⟨rfl, v, rfl⟩
      have hz := hS.size
      have z1 := hS.f2
      have z2 := hS.f8
      have z3 := hS.r1
      have z4 := hS.r16
      have z5 := hS.e1
      have z6 := hS.e40
      have z7 := hS.k1
      have z8 := hS.k100
      wtm_at "go"
      refine ⟨l, S.lengths, rfl, SqL.of hl, by omega, fun m hm hmax => ?_⟩
      have hm2 := hS.len m hm
      wtm_at "go"
      refine ⟨_, _, m, 64, rfl, hm2.2, hz, ?_⟩
      wtm_at "go"
      refine ⟨_, _, 2, 8, rfl, z1, z2, ?_⟩
      wtm_at "go"
      refine ⟨_, _, 1, 16, rfl, z3, z4, ?_⟩
      wtm_at "go"
      refine ⟨_, _, 1, 40, rfl, z5, z6, ?_⟩
      wtm_at "go"
      refine ⟨_, _, 1, 100, rfl, z7, z8, ?_⟩
      wtm_at "go"
      refine q_tupL hl fun t H1 nt ht s1 => ?_
      wtm_at "go"
      have npt : p ≠ t := ne_of_none e0 nt
      have e1 := s1 _ _ e0
      refine i_setKo e1 T.c_Settings T.n_Settings_lengths (of_decide_eq_true (by kernel_rfl)) fun H2 e2 n2 => ?_
      wtm_at "go"
      refine i_setKo e2 T.c_Settings T.n_Settings_size (of_decide_eq_true (by kernel_rfl)) fun H3 e3 n3 => ?_
      wtm_at "go"
      refine i_setKo e3 T.c_Settings T.n_Settings_fanout (of_decide_eq_true (by kernel_rfl)) fun H4 e4 n4 => ?_
      wtm_at "go"
      refine i_setKo e4 T.c_Settings T.n_Settings_records (of_decide_eq_true (by kernel_rfl)) fun H5 e5 n5 => ?_
      wtm_at "go"
      refine i_setKo e5 T.c_Settings T.n_Settings_every (of_decide_eq_true (by kernel_rfl)) fun H6 e6 n6 => ?_
      wtm_at "go"
      refine i_setKo e6 T.c_Settings T.n_Settings_keep (of_decide_eq_true (by kernel_rfl)) fun H7 e7 n7 => ?_
      refine k H7 t ⟨⟨dx, ?_⟩, ?_, hS⟩ ?_
      · rw [e7]
        kernel_rfl
      · rw [n7 t npt.symm, n6 t npt.symm, n5 t npt.symm, n4 t npt.symm, n3 t npt.symm, n2 t npt.symm]
        exact ht
      · exact ((((((But.same s1).trans (But.at_ n2)).trans (But.at_ n3)).trans (But.at_ n4)).trans (But.at_ n5)).trans (But.at_ n6)).trans (But.at_ n7)
end
end K90


namespace K90
open PySem PySem.Spec PyProof.Rows L2 KR
local macro_rules | `(tactic| wtm_at "go1") => `(tactic| first
  | (with_reducible refine i_seq ?_) | ((with_reducible refine' i_var ?k1 ?_); (case k1 => exact rfl)) | (with_reducible refine i_c ?_) | (with_reducible refine i_asg ?_) | (with_reducible refine i_name ?_)
  | (with_reducible refine i_ret ?_) | (with_reducible refine i_retN ?_) | (with_reducible refine i_drop ?_) | (with_reducible refine i_next ?_) | (with_reducible refine i_op ?_) | (with_reducible refine i_rI0 ?_)
  | (with_reducible refine i_fld ?_) | (with_reducible refine i_setf ?_) | (with_reducible refine i_augf ?_) | (with_reducible refine i_meth ?_) | (with_reducible refine i_cons ?_) | (with_reducible refine i_nil ?_)
  | (with_reducible refine i_call ?_) | (with_reducible refine i_cb ?_) | (with_reducible refine i_test ?_) | (with_reducible refine i_tB ?_) | (with_reducible refine i_bl ?_) | (with_reducible refine i_not ?_)
  | (with_reducible refine i_if ?_) | (with_reducible refine i_ifE ?_) | (with_reducible refine i_andV ?_) | (with_reducible refine i_orV ?_) | (with_reducible refine i_notV ?_) | (with_reducible refine i_and ?_) | (with_reducible refine i_or ?_)
  | (with_reducible refine i_rEqI ?_) | (with_reducible refine i_rNeI ?_) | (with_reducible refine i_un ?_) | (with_reducible refine i_rU ?_) | (with_reducible refine i_chain ?_) | (with_reducible refine i_tpar ?_) | (with_reducible refine i_par ?_) | (with_reducible refine i_tpar3 ?_) | (with_reducible refine i_par3 ?_)
  | ((with_reducible refine' i_aug ?k1 ?_); (case k1 => exact rfl)) | (with_reducible refine i_ipI ?_) | (with_reducible refine i_tup ?_) | (with_reducible refine i_lst ?_) | (with_reducible refine i_bm ?_) | (with_reducible refine i_bm0 ?_)
  | (with_reducible refine i_for ?_) | (with_reducible refine i_list ?_) | (with_reducible refine i_rng1 ?_) | (with_reducible refine i_keys ?_) | (with_reducible refine i_lc ?_) | (with_reducible refine i_yes ?_) | (with_reducible refine i_dput ?_)
  | (with_reducible refine i_dget ?_) | (with_reducible refine i_din ?_) | (with_reducible refine i_dnotin ?_) | (with_reducible refine i_dget1 ?_) | (with_reducible refine i_dget2 ?_) | (with_reducible refine i_dpop2 ?_)
  | (with_reducible refine q_max2 ?_) | (with_reducible refine q_min2 ?_) | (with_reducible refine q_notN ?_) | (with_reducible refine q_isN ?_) | (with_reducible refine i_gtup ?_) | (with_reducible refine i_gcons ?_) | (with_reducible refine i_gnil ?_) | (with_reducible refine i_make ?_) | (with_reducible refine i_dnewK ?_) | (with_reducible refine i_dnewT ?_)
  | (with_reducible refine q_int1 ?_) | (with_reducible refine q_int1b ?_) | (with_reducible refine i_sl ?_) | (with_reducible refine i_npart ?_) | (with_reducible refine i_part ?_) | (with_reducible refine i_pint ?_) | (with_reducible refine i_pcons ?_) | (with_reducible refine i_pnil ?_) | (with_reducible refine i_gsub ?_) | (with_reducible refine i_makeKw ?_)
  | (with_reducible refine i_rAdd ?_) | (with_reducible refine i_rSub ?_) | (with_reducible refine i_isN ?_))
local macro_rules | `(tactic| wtm_at "go") => `(tactic| repeat (wtm_at "go1"))

def coreF (ps pp lh dn ll lw dc lf : Addr) : List (Str × V) := [("settings", .ref ps), ("packing", .ref pp), ("done", .int 0), ("oldest", .int 0), ("heap", .ref lh), ("node_places", .ref dn), ("top_level", .int (-1)), ("log", .ref ll), ("waiting", .ref lw), ("changed", .ref dc), ("free_row", .ref lf), ("taken_count", .int 0)]
section
variable {P : Program} {w : World} {K : PySem.W.Frag} {mg : Str → Option Value} {base : Heap}
theorem But.none {p b : Addr} {H H' : Hp} (x : But p H H') (hb : b ≠ p) (n : H' b = none) : H b = none := by
  cases q : H b with
  | none => rfl
  | some o =>
    rw [x b o q hb] at n
    cases n
def sp_Book_init (K : PySem.W.Frag) : Sp := fun vs H Q _ => ∃ (p dx ps pp : Addr), vs = [.ref p, .ref ps, .ref pp] ∧ H p = some (.ins (He.ga K "Store") dx []) ∧ ∀ H' lh dn ll lw dc lf, H' p = some (.ins (He.ga K "Store") dx (coreF ps pp lh dn ll lw dc lf)) →
  H' lh = some (.lst []) → H' ll = some (.lst []) → H' lw = some (.lst []) → H' lf = some (.lst []) → H' dn = some (.dT []) → H' dc = some (.dK []) → [lh, ll, lw, lf].Nodup → (∀ b ∈ [lh, ll, lw, lf, dn, dc], H b = Option.none) → But p H H' → Q .non H'
theorem O_Book_init (T : Tx K mg) : CF P w K mg base CX0 "Book" "__init__" ["self", "settings", "packing"] 1 (sp_Book_init K) := by
  obtain ⟨fd, F⟩ := T.F_Book_init
  obtain ⟨x1, x2, x3⟩ := ex_Book_init T.ex
  refine ⟨_, _, fd, ?_, T.g_Book, x1, x2, x3, F.kp, F.bindsN fun _ _ _ _ _ _ us hl => match us, hl with | [_, _, _], _ => rfl⟩
  refine F.ok sc_Core_init (fun vs H Q E h => ?_) (fun cdv A outer s H vs Q E hr h => ?_)
  · first | (obtain ⟨rfl, _⟩ := h; rfl) | (obtain ⟨_, rfl, _⟩ := h; rfl) | (obtain ⟨_, _, rfl, _⟩ := h; rfl) | (obtain ⟨_, _, _, rfl, _⟩ := h; rfl) | (obtain ⟨_, _, _, _, rfl, _⟩ := h; rfl) | (obtain ⟨_, _, _, _, _, rfl, _⟩ := h; rfl) | (obtain ⟨_, _, _, _, _, _, rfl, _⟩ := h; rfl) | (obtain ⟨_, _, _, _, _, _, _, rfl, _⟩ := h; rfl) | (obtain ⟨_, _, _, _, _, _, _, _, rfl, _⟩ := h; rfl) | (obtain ⟨_, _, _, _, _, _, _, _, _, rfl, _⟩ := h; rfl) | (obtain ⟨_, _, _, _, _, _, _, _, _, _, rfl, _⟩ := h; rfl) | (obtain ⟨_, _, _, _, _, _, _, _, _, _, _, rfl, _⟩ := h; rfl) | (obtain ⟨_, _, _, _, _, _, _, _, _, _, _, _, rfl, _⟩ := h; rfl) | (obtain ⟨_, _, _, _, _, _, _, _, _, _, _, _, _, rfl, _⟩ := h; rfl) | (obtain ⟨_, _, _, _, _, _, _, _, _, _, _, _, _, _, rfl, _⟩ := h; rfl) | (obtain ⟨_, _, _, _, _, _, _, _, _, _, _, _, _, _, _, rfl, _⟩ := h; rfl) | (obtain ⟨_, _, _, _, _, _, _, _, _, _, _, _, _, _, _, _, rfl, _⟩ := h; rfl) | (obtain ⟨_, _, _, _, _, _, _, _, _, _, _, _, _, _, _, _, _, rfl, _⟩ := h; rfl) | (obtain ⟨_, _, _, _, _, _, _, _, _, _, _, _, _, _, _, _, _, _, rfl, _⟩ := h; rfl) | (obtain ⟨_, _, _, _, _, _, _, _, _, _, _, _, _, _, _, _, _, _, _, rfl, _⟩ := h; rfl) | (obtain ⟨_, _, _, _, _, _, _, _, _, _, _, _, _, _, _, _, _, _, _, _, rfl, _⟩ := h; rfl) | (obtain ⟨_, _, _, _, _, _, _, _, _, _, _, _, _, _, _, _, _, _, _, _, _, rfl, _⟩ := h; rfl)
  · obtain ⟨p, dx, ps, pp, rfl, e0, k⟩ := h
    refine ⟨_, PSs.nox (pss_cons (ps_fld (pv 0) (pv 1) rfl)
  (pss_cons (ps_fld (pv 0) (pv 2) rfl)
  (pss_cons (ps_fld (pv 0) pe_int rfl)
  (pss_cons (ps_fld (pv 0) pe_int rfl)
  (pss_cons (ps_fld (pv 0) (pe_lst pa_nil) rfl)
  (pss_cons (ps_fld (pv 0) pe_dnewT rfl)
  (pss_cons (ps_fld (pv 0) (pe_un un_neg pe_int) rfl)
  (pss_cons (ps_fld (pv 0) (pe_lst pa_nil) rfl)
  (pss_cons (ps_fld (pv 0) (pe_lst pa_nil) rfl)
  (pss_cons (ps_fld (pv 0) pe_dnewK rfl)
  (pss_cons (ps_fld (pv 0) (pe_lst pa_nil) rfl)
  (pss_one (ps_fld (pv 0) pe_int rfl))))))))))))), ?_⟩
    have b0 : But p H H := But.refl p H
    wtm_at "go"
    refine i_setKo e0 T.c_Store T.n_Store_settings (of_decide_eq_true (by kernel_rfl)) fun H1 e1 n1 => ?_
    have b1 := b0.trans (But.at_ n1)
    wtm_at "go"
    refine i_setKo e1 T.c_Store T.n_Store_packing (of_decide_eq_true (by kernel_rfl)) fun H2 e2 n2 => ?_
    have b2 := b1.trans (But.at_ n2)
    wtm_at "go"
    refine i_setKo e2 T.c_Store T.n_Store_done (of_decide_eq_true (by kernel_rfl)) fun H3 e3 n3 => ?_
    have b3 := b2.trans (But.at_ n3)
    wtm_at "go"
    refine i_setKo e3 T.c_Store T.n_Store_oldest (of_decide_eq_true (by kernel_rfl)) fun H4 e4 n4 => ?_
    have b4 := b3.trans (But.at_ n4)
    wtm_at "go"
    refine i_lstK (by decide) fun lh H5 nlh hlh s5 => ?_
    have nplh : lh ≠ p := (ne_of_none e4 nlh).symm
    have flh : H lh = Option.none := b4.none nplh nlh
    have e4_ := s5 _ _ e4
    have b5 := b4.trans (But.same s5)
    wtm_at "go"
    refine i_setKo e4_ T.c_Store T.n_Store_heap (of_decide_eq_true (by kernel_rfl)) fun H6 e6 n6 => ?_
    replace hlh := (n6 lh nplh).trans hlh
    have b6 := b5.trans (But.at_ n6)
    wtm_at "go"
    intro dn H7 ndn hdn s7
    have npdn : dn ≠ p := (ne_of_none e6 ndn).symm
    have fdn : H dn = Option.none := b6.none npdn ndn
    have dlhdn : lh ≠ dn := ne_of_none hlh ndn
    replace hlh := s7 _ _ hlh
    have e6_ := s7 _ _ e6
    have b7 := b6.trans (But.same s7)
    wtm_at "go"
    refine i_setKo e6_ T.c_Store T.n_Store_node_places (of_decide_eq_true (by kernel_rfl)) fun H8 e8 n8 => ?_
    replace hlh := (n8 lh nplh).trans hlh
    replace hdn := (n8 dn npdn).trans hdn
    have b8 := b7.trans (But.at_ n8)
    wtm_at "go"
    refine i_setKo e8 T.c_Store T.n_Store_top_level (of_decide_eq_true (by kernel_rfl)) fun H9 e9 n9 => ?_
    replace hlh := (n9 lh nplh).trans hlh
    replace hdn := (n9 dn npdn).trans hdn
    have b9 := b8.trans (But.at_ n9)
    wtm_at "go"
    refine i_lstK (by decide) fun ll H10 nll hll s10 => ?_
    have npll : ll ≠ p := (ne_of_none e9 nll).symm
    have fll : H ll = Option.none := b9.none npll nll
    have dlhll : lh ≠ ll := ne_of_none hlh nll
    replace hlh := s10 _ _ hlh
    have ddnll : dn ≠ ll := ne_of_none hdn nll
    replace hdn := s10 _ _ hdn
    have e9_ := s10 _ _ e9
    have b10 := b9.trans (But.same s10)
    wtm_at "go"
    refine i_setKo e9_ T.c_Store T.n_Store_log (of_decide_eq_true (by kernel_rfl)) fun H11 e11 n11 => ?_
    replace hlh := (n11 lh nplh).trans hlh
    replace hdn := (n11 dn npdn).trans hdn
    replace hll := (n11 ll npll).trans hll
    have b11 := b10.trans (But.at_ n11)
    wtm_at "go"
    refine i_lstK (by decide) fun lw H12 nlw hlw s12 => ?_
    have nplw : lw ≠ p := (ne_of_none e11 nlw).symm
    have flw : H lw = Option.none := b11.none nplw nlw
    have dlhlw : lh ≠ lw := ne_of_none hlh nlw
    replace hlh := s12 _ _ hlh
    have ddnlw : dn ≠ lw := ne_of_none hdn nlw
    replace hdn := s12 _ _ hdn
    have dlllw : ll ≠ lw := ne_of_none hll nlw
    replace hll := s12 _ _ hll
    have e11_ := s12 _ _ e11
    have b12 := b11.trans (But.same s12)
    wtm_at "go"
    refine i_setKo e11_ T.c_Store T.n_Store_waiting (of_decide_eq_true (by kernel_rfl)) fun H13 e13 n13 => ?_
    replace hlh := (n13 lh nplh).trans hlh
    replace hdn := (n13 dn npdn).trans hdn
    replace hll := (n13 ll npll).trans hll
    replace hlw := (n13 lw nplw).trans hlw
    have b13 := b12.trans (But.at_ n13)
    wtm_at "go"
    intro dc H14 ndc hdc s14
    have npdc : dc ≠ p := (ne_of_none e13 ndc).symm
    have fdc : H dc = Option.none := b13.none npdc ndc
    have dlhdc : lh ≠ dc := ne_of_none hlh ndc
    replace hlh := s14 _ _ hlh
    have ddndc : dn ≠ dc := ne_of_none hdn ndc
    replace hdn := s14 _ _ hdn
    have dlldc : ll ≠ dc := ne_of_none hll ndc
    replace hll := s14 _ _ hll
    have dlwdc : lw ≠ dc := ne_of_none hlw ndc
    replace hlw := s14 _ _ hlw
    have e13_ := s14 _ _ e13
    have b14 := b13.trans (But.same s14)
    wtm_at "go"
    refine i_setKo e13_ T.c_Store T.n_Store_changed (of_decide_eq_true (by kernel_rfl)) fun H15 e15 n15 => ?_
    replace hlh := (n15 lh nplh).trans hlh
    replace hdn := (n15 dn npdn).trans hdn
    replace hll := (n15 ll npll).trans hll
    replace hlw := (n15 lw nplw).trans hlw
    replace hdc := (n15 dc npdc).trans hdc
    have b15 := b14.trans (But.at_ n15)
    wtm_at "go"
    refine i_lstK (by decide) fun lf H16 nlf hlf s16 => ?_
    have nplf : lf ≠ p := (ne_of_none e15 nlf).symm
    have flf : H lf = Option.none := b15.none nplf nlf
    have dlhlf : lh ≠ lf := ne_of_none hlh nlf
    replace hlh := s16 _ _ hlh
    have ddnlf : dn ≠ lf := ne_of_none hdn nlf
    replace hdn := s16 _ _ hdn
    have dlllf : ll ≠ lf := ne_of_none hll nlf
    replace hll := s16 _ _ hll
    have dlwlf : lw ≠ lf := ne_of_none hlw nlf
    replace hlw := s16 _ _ hlw
    have ddclf : dc ≠ lf := ne_of_none hdc nlf
    replace hdc := s16 _ _ hdc
    have e15_ := s16 _ _ e15
    have b16 := b15.trans (But.same s16)
    wtm_at "go"
    refine i_setKo e15_ T.c_Store T.n_Store_free_row (of_decide_eq_true (by kernel_rfl)) fun H17 e17 n17 => ?_
    replace hlh := (n17 lh nplh).trans hlh
    replace hdn := (n17 dn npdn).trans hdn
    replace hll := (n17 ll npll).trans hll
    replace hlw := (n17 lw nplw).trans hlw
    replace hdc := (n17 dc npdc).trans hdc
    replace hlf := (n17 lf nplf).trans hlf
    have b17 := b16.trans (But.at_ n17)
    wtm_at "go"
    refine i_setKo e17 T.c_Store T.n_Store_taken_count (of_decide_eq_true (by kernel_rfl)) fun H18 e18 n18 => ?_
    replace hlh := (n18 lh nplh).trans hlh
    replace hdn := (n18 dn npdn).trans hdn
    replace hll := (n18 ll npll).trans hll
    replace hlw := (n18 lw nplw).trans hlw
    replace hdc := (n18 dc npdc).trans hdc
    replace hlf := (n18 lf nplf).trans hlf
    have b18 := b17.trans (But.at_ n18)
    refine k H18 lh dn ll lw dc lf ?_ hlh hll hlw hlf hdn hdc ?_ ?_ b18
    · rw [e18]
      kernel_rfl
    · simp only [List.nodup_cons, List.mem_cons, List.not_mem_nil, or_false, not_or, List.nodup_nil, and_true, not_false_eq_true]
      exact ⟨⟨dlhll, dlhlw, dlhlf⟩, ⟨dlllw, dlllf⟩, dlwlf⟩
    · intro b hb
      simp only [List.mem_cons, List.not_mem_nil, or_false] at hb
      rcases hb with rfl | rfl | rfl | rfl | rfl | rfl
      · exact flh
      · exact fll
      · exact flw
      · exact flf
      · exact fdn
      · exact fdc
def sp_Store_init (K : PySem.W.Frag) : Sp := fun vs H Q _ => ∃ (p dx ps ts : Addr) (S : Sett), vs = [.ref p, .ref ps] ∧ H p = some (.ins (He.ga K "Store") dx []) ∧ SetAt K ps ts S H ∧
  ∀ H' a, StoreAt K a S Sto.init H' → a.p = p → a.ps = ps → a.ts = ts → (∀ b ∈ a.dom, b = p ∨ b = ps ∨ b = ts ∨ H b = Option.none) → But p H H' → Q .non H'
theorem O_Store_init (T : Tx K mg) : KF P w K mg base CX0 "Store" (He.ga K "Store") ["self", "settings"] 5 (sp_Store_init K) := by
  have O_check_settings := O_check_settings (P := P) (w := w) (base := base) T
  have O_Book_init := O_Book_init (P := P) (w := w) (base := base) T
  have O_Packing_init := O_Packing_init (P := P) (w := w) (base := base) T
  obtain ⟨fd, F⟩ := T.F_Store_init
  refine ⟨_, fd, ?_, T.k_Store, T.g_Store, F.bindsN fun _ _ _ _ _ _ us hl => match us, hl with | [_, _], _ => rfl⟩
  refine F.ok sc_Store_init (fun vs H Q E h => ?_) (fun cdv A outer s H vs Q E hr h => ?_)
  · first | (obtain ⟨rfl, _⟩ := h; rfl) | (obtain ⟨_, rfl, _⟩ := h; rfl) | (obtain ⟨_, _, rfl, _⟩ := h; rfl) | (obtain ⟨_, _, _, rfl, _⟩ := h; rfl) | (obtain ⟨_, _, _, _, rfl, _⟩ := h; rfl) | (obtain ⟨_, _, _, _, _, rfl, _⟩ := h; rfl) | (obtain ⟨_, _, _, _, _, _, rfl, _⟩ := h; rfl) | (obtain ⟨_, _, _, _, _, _, _, rfl, _⟩ := h; rfl) | (obtain ⟨_, _, _, _, _, _, _, _, rfl, _⟩ := h; rfl) | (obtain ⟨_, _, _, _, _, _, _, _, _, rfl, _⟩ := h; rfl) | (obtain ⟨_, _, _, _, _, _, _, _, _, _, rfl, _⟩ := h; rfl) | (obtain ⟨_, _, _, _, _, _, _, _, _, _, _, rfl, _⟩ := h; rfl) | (obtain ⟨_, _, _, _, _, _, _, _, _, _, _, _, rfl, _⟩ := h; rfl) | (obtain ⟨_, _, _, _, _, _, _, _, _, _, _, _, _, rfl, _⟩ := h; rfl) | (obtain ⟨_, _, _, _, _, _, _, _, _, _, _, _, _, _, rfl, _⟩ := h; rfl) | (obtain ⟨_, _, _, _, _, _, _, _, _, _, _, _, _, _, _, rfl, _⟩ := h; rfl) | (obtain ⟨_, _, _, _, _, _, _, _, _, _, _, _, _, _, _, _, rfl, _⟩ := h; rfl) | (obtain ⟨_, _, _, _, _, _, _, _, _, _, _, _, _, _, _, _, _, rfl, _⟩ := h; rfl) | (obtain ⟨_, _, _, _, _, _, _, _, _, _, _, _, _, _, _, _, _, _, rfl, _⟩ := h; rfl) | (obtain ⟨_, _, _, _, _, _, _, _, _, _, _, _, _, _, _, _, _, _, _, rfl, _⟩ := h; rfl) | (obtain ⟨_, _, _, _, _, _, _, _, _, _, _, _, _, _, _, _, _, _, _, _, rfl, _⟩ := h; rfl) | (obtain ⟨_, _, _, _, _, _, _, _, _, _, _, _, _, _, _, _, _, _, _, _, _, rfl, _⟩ := h; rfl)
  · obtain ⟨p, dx, ps, ts, S, rfl, e0, hs, k⟩ := h
    obtain ⟨dxs, es⟩ := hs.ob
    have pps : p ≠ ps := ne_of e0 es (by intro z; have z2 := (HO.ins.inj z).2.2; unfold setF at z2; cases z2)
    have ppt : p ≠ ts := ne_of e0 hs.tp (by intro z; cases z)
    refine ⟨_, PSs.nox (pss_cons (ps_expr (pg O_check_settings hr pass0 (pa_cons (pv 1) pa_nil)))
  (pss_cons (ps_expr (pc O_Book_init hr pass0 (pa_cons (pv 0) (pa_cons (pv 1) (pa_cons (pk O_Packing_init hr pass0 (pa_cons (pv 1) pa_nil)) pa_nil)))))
  (pss_one (ps_fld (pv 0) (pe_lst pa_nil) rfl)))), ?_⟩
    wtm_at "go"
    refine ⟨ps, ts, S, rfl, hs, ?_⟩
    wtm_at "go"
    refine i_makeK fun pp dp H1 npp ndp epp s1 => ?_
    have hs1 : SetAt K ps ts S H1 := hs.of (s1 ps) (s1 ts)
    refine ⟨pp, dp, ps, ts, S, rfl, epp, hs1, fun H2 ls hpk b2 nls => ⟨rfl, ?_⟩⟩
    wtm_at "go"
    have nppp : p ≠ pp := ne_of_none e0 npp
    have e2 := b2 _ _ (s1 _ _ e0) nppp
    refine ⟨p, dx, ps, pp, rfl, e2, fun H3 lh dn ll lw dc lf e3 hlh hll hlw hlf hdn hdc nd fr b3 => ?_⟩
    wtm_at "go"
    refine i_lstK (by decide) fun le H4 nle hle s4 => ?_
    wtm_at "go"
    have nple : le ≠ p := (ne_of_none e3 nle).symm
    refine i_setKo (s4 _ _ e3) T.c_Store T.n_Store_events (of_decide_eq_true (by kernel_rfl)) fun H5 e5 n5 => ?_
    have c1 : ∀ b o, H1 b = some o → b ≠ pp → b ≠ p → H5 b = some o := fun b o e h1 h2 => (n5 b h2).trans (s4 _ _ (b3 b o (b2 b o e h1) h2))
    obtain ⟨dpx, q, hq, epk, hls⟩ := hpk.ob
    have nppl : pp ≠ ls := ne_of epk hls (by intro z; cases z)
    have npl : p ≠ ls := ne_of e2 hls (by intro z; cases z)
    have npsp : ps ≠ pp := fun z => by rw [z] at es; rw [npp] at es; cases es
    have ntsp : ts ≠ pp := fun z => by have := hs.tp; rw [z, npp] at this; cases this
    have epk5 := (n5 pp nppp.symm).trans (s4 _ _ (b3 _ _ epk nppp.symm))
    have hls5 := (n5 ls npl.symm).trans (s4 _ _ (b3 _ _ hls npl.symm))
    have hs5 : SetAt K ps ts S H5 := hs1.of (fun o e => c1 ps o e npsp pps.symm) (fun o e => c1 ts o e ntsp ppt.symm)
    have g : ∀ b, b ∈ [lh, ll, lw, lf, dn, dc] → b ≠ p ∧ b ≠ ps ∧ b ≠ ts ∧ b ≠ pp ∧ b ≠ ls := fun b hb => by
      have h1 := fr b hb
      refine ⟨fun z => ?_, fun z => ?_, fun z => ?_, fun z => ?_, fun z => ?_⟩ <;> subst z
      · rw [e2] at h1; cases h1
      · rw [b2 _ _ (s1 _ _ es) npsp] at h1; cases h1
      · rw [b2 _ _ (s1 _ _ hs.tp) ntsp] at h1; cases h1
      · rw [epk] at h1; cases h1
      · rw [hls] at h1; cases h1
    have ne4 : ∀ {b o}, H3 b = some o → le ≠ b := fun e z => by rw [← z, nle] at e; cases e
    have up : ∀ {b o}, H3 b = some o → b ≠ p → H5 b = some o := fun e n => (n5 _ n).trans (s4 _ _ e)
    refine k H5 ⟨dx, p, lh, ll, lw, lf, le, dn, dc, ps, ts, pp, ls⟩ ⟨?_, up hlh (g _ (by simp)).1, up hll (g _ (by simp)).1, up hlw (g _ (by simp)).1, up hlf (g _ (by simp)).1, ⟨[], (n5 le nple).trans hle, EvsAt.nil⟩, up hdn (g _ (by simp)).1, up hdc (g _ (by simp)).1, hs5, ⟨⟨dpx, q, hq, epk5, hls5⟩, hs5.tp, hs.ok⟩, ?_⟩ rfl rfl rfl ?_ ?_
    · rw [e5]
      kernel_rfl
    · have n1 := g lh (by simp)
      have n2 := g ll (by simp)
      have n3 := g lw (by simp)
      have n4 := g lf (by simp)
      have n6 := g dn (by simp)
      have n7 := g dc (by simp)
      have m1 : lh ≠ dn := ne_of hlh hdn (by intro z; cases z)
      have m2 : ll ≠ dn := ne_of hll hdn (by intro z; cases z)
      have m3 : lw ≠ dn := ne_of hlw hdn (by intro z; cases z)
      have m4 : lf ≠ dn := ne_of hlf hdn (by intro z; cases z)
      have m5 : lh ≠ dc := ne_of hlh hdc (by intro z; cases z)
      have m6 : ll ≠ dc := ne_of hll hdc (by intro z; cases z)
      have m7 : lw ≠ dc := ne_of hlw hdc (by intro z; cases z)
      have m8 : lf ≠ dc := ne_of hlf hdc (by intro z; cases z)
      have m9 : dn ≠ dc := ne_of hdn hdc (by intro z; cases z)
      have l1 := ne4 hlh
      have l2 := ne4 hll
      have l3 := ne4 hlw
      have l4 := ne4 hlf
      have l5 := ne4 hdn
      have l6 := ne4 hdc
      have l7 := ne4 (b3 _ _ (b2 _ _ (s1 _ _ es) npsp) pps.symm)
      have l8 := ne4 (b3 _ _ (b2 _ _ (s1 _ _ hs.tp) ntsp) ppt.symm)
      have l9 := ne4 (b3 _ _ epk nppp.symm)
      have l10 := ne4 (b3 _ _ hls npl.symm)
      have r1 : ps ≠ ts := ne_of es hs.tp (by intro z; cases z)
      have r2 : ps ≠ ls := fun z => by rw [z] at es; rw [s1.free nls] at es; cases es
      have r3 : ts ≠ ls := fun z => by have := hs.tp; rw [z, s1.free nls] at this; cases this
      simp only [SA.dom, List.nodup_cons, List.mem_cons, List.not_mem_nil, or_false, not_or, List.nodup_nil, and_true, not_false_eq_true] at nd ⊢
      simp_all [eq_comm]
    · intro b hb
      simp only [SA.dom, List.mem_cons, List.not_mem_nil, or_false] at hb
      have un : ∀ {b : Addr}, H2 b = Option.none → b = p ∨ b = ps ∨ b = ts ∨ H b = Option.none := fun {b} h2 => by
        by_cases hb : b = p
        · exact .inl hb
        · refine .inr (.inr (.inr (s1.free ?_)))
          by_cases hc : b = pp
          · subst hc; rw [epk] at h2; cases h2
          · exact But.none b2 hc h2
      rcases hb with rfl | rfl | rfl | rfl | rfl | rfl | rfl | rfl | rfl | rfl | rfl | rfl
      · exact .inl rfl
      · exact un (fr _ (by simp))
      · exact un (fr _ (by simp))
      · exact un (fr _ (by simp))
      · exact un (fr _ (by simp))
      · exact un (But.none b3 nple nle)
      · exact un (fr _ (by simp))
      · exact un (fr _ (by simp))
      · exact .inr (.inl rfl)
      · exact .inr (.inr (.inl rfl))
      · exact .inr (.inr (.inr npp))
      · exact .inr (.inr (.inr (s1.free nls)))
    · intro b o e n
      refine (n5 b n).trans (s4 _ _ (b3 b o (b2 b o (s1 _ _ e) fun z => ?_) n))
      rw [z, npp] at e; cases e
end
end K90


namespace K90
open PySem PySem.Spec PyProof.Rows L2 KR
local macro_rules | `(tactic| wtm_at "go1") => `(tactic| first
  | (with_reducible refine i_seq ?_) | ((with_reducible refine' i_var ?k1 ?_); (case k1 => exact rfl)) | (with_reducible refine i_c ?_) | (with_reducible refine i_asg ?_) | (with_reducible refine i_name ?_)
  | (with_reducible refine i_ret ?_) | (with_reducible refine i_retN ?_) | (with_reducible refine i_drop ?_) | (with_reducible refine i_next ?_) | (with_reducible refine i_op ?_) | (with_reducible refine i_rI0 ?_)
  | (with_reducible refine i_fld ?_) | (with_reducible refine i_setf ?_) | (with_reducible refine i_augf ?_) | (with_reducible refine i_meth ?_) | (with_reducible refine i_cons ?_) | (with_reducible refine i_nil ?_)
  | (with_reducible refine i_call ?_) | (with_reducible refine i_cb ?_) | (with_reducible refine i_test ?_) | (with_reducible refine i_tB ?_) | (with_reducible refine i_bl ?_) | (with_reducible refine i_not ?_)
  | (with_reducible refine i_if ?_) | (with_reducible refine i_ifE ?_) | (with_reducible refine i_andV ?_) | (with_reducible refine i_orV ?_) | (with_reducible refine i_notV ?_) | (with_reducible refine i_and ?_) | (with_reducible refine i_or ?_)
  | (with_reducible refine i_rEqI ?_) | (with_reducible refine i_rNeI ?_) | (with_reducible refine i_un ?_) | (with_reducible refine i_rU ?_) | (with_reducible refine i_chain ?_) | (with_reducible refine i_tpar ?_) | (with_reducible refine i_par ?_) | (with_reducible refine i_tpar3 ?_) | (with_reducible refine i_par3 ?_)
  | ((with_reducible refine' i_aug ?k1 ?_); (case k1 => exact rfl)) | (with_reducible refine i_ipI ?_) | (with_reducible refine i_tup ?_) | (with_reducible refine i_lst ?_) | (with_reducible refine i_bm ?_) | (with_reducible refine i_bm0 ?_)
  | (with_reducible refine i_for ?_) | (with_reducible refine i_list ?_) | (with_reducible refine i_rng1 ?_) | (with_reducible refine i_keys ?_) | (with_reducible refine i_lc ?_) | (with_reducible refine i_yes ?_) | (with_reducible refine i_dput ?_)
  | (with_reducible refine i_dget ?_) | (with_reducible refine i_din ?_) | (with_reducible refine i_dnotin ?_) | (with_reducible refine i_dget1 ?_) | (with_reducible refine i_dget2 ?_) | (with_reducible refine i_dpop2 ?_)
  | (with_reducible refine q_max2 ?_) | (with_reducible refine q_min2 ?_) | (with_reducible refine q_notN ?_) | (with_reducible refine q_isN ?_) | (with_reducible refine i_gtup ?_) | (with_reducible refine i_gcons ?_) | (with_reducible refine i_gnil ?_) | (with_reducible refine i_make ?_) | (with_reducible refine i_dnewK ?_) | (with_reducible refine i_dnewT ?_)
  | (with_reducible refine q_int1 ?_) | (with_reducible refine q_int1b ?_) | (with_reducible refine i_sl ?_) | (with_reducible refine i_npart ?_) | (with_reducible refine i_part ?_) | (with_reducible refine i_pint ?_) | (with_reducible refine i_pcons ?_) | (with_reducible refine i_pnil ?_) | (with_reducible refine i_gsub ?_) | (with_reducible refine i_makeKw ?_)
  | (with_reducible refine i_rAdd ?_) | (with_reducible refine i_rSub ?_) | (with_reducible refine i_isN ?_))
local macro_rules | `(tactic| wtm_at "go") => `(tactic| repeat (wtm_at "go1"))

def NoteOf (H : Hp) (kv pv rv : V) : Ev → Prop
  | .take pg r => kv = .str "take" ∧ pv = .int pg ∧ RoleAt H rv r
  | .give pg r => kv = .str "give" ∧ pv = .int pg ∧ RoleAt H rv r
  | .record pg n => kv = .str "record" ∧ pv = .int pg ∧ rv = .int n
  | .put pg n => kv = .str "put" ∧ pv = .int pg ∧ rv = .int n
  | .write pg => kv = .str "write" ∧ pv = .int pg ∧ rv = .non
  | .free pg => kv = .str "free" ∧ pv = .int pg ∧ rv = .non
theorem notNone_int (n : Int) : decide (V.int n = V.non) = false := decide_eq_false (by intro z; cases z)
theorem notNone_ref (n : Addr) : decide (V.ref n = V.non) = false := decide_eq_false (by intro z; cases z)
section
variable {P : Program} {w : World} {K : PySem.W.Frag} {mg : Str → Option Value} {base : Heap}
def sp_Store_note (K : PySem.W.Frag) : Sp := fun vs H Q _ => ∃ (a : SA) (S : Sett) (M : Sto) (kv pv rv : V) (e : Ev), vs = [.ref a.p, kv, pv, rv] ∧ StoreAt K a S M H ∧ NoteOf H kv pv rv e ∧ M.ev.length < sizeLine ∧ ∀ H', StoreAt K a S (M.note e) H' → Mv a H a H' → Q .non H'
theorem O_Store_note (T : Tx K mg) : MF P w K mg base CX0 (He.ga K "Store") "note" ["self", "kind", "page", "role"] 1 (sp_Store_note K) := by
  obtain ⟨fd, F⟩ := T.F_Store_note
  refine ⟨_, fd, ?_, T.m_Store_note, F.bindsN fun _ _ _ _ _ _ us hl => match us, hl with | [_, _, _, _], _ => rfl⟩
  refine F.ok sc_Store_note (fun vs H Q E h => ?_) (fun cdv A outer s H vs Q E hr h => ?_)
  · first | (obtain ⟨rfl, _⟩ := h; rfl) | (obtain ⟨_, rfl, _⟩ := h; rfl) | (obtain ⟨_, _, rfl, _⟩ := h; rfl) | (obtain ⟨_, _, _, rfl, _⟩ := h; rfl) | (obtain ⟨_, _, _, _, rfl, _⟩ := h; rfl) | (obtain ⟨_, _, _, _, _, rfl, _⟩ := h; rfl) | (obtain ⟨_, _, _, _, _, _, rfl, _⟩ := h; rfl) | (obtain ⟨_, _, _, _, _, _, _, rfl, _⟩ := h; rfl) | (obtain ⟨_, _, _, _, _, _, _, _, rfl, _⟩ := h; rfl) | (obtain ⟨_, _, _, _, _, _, _, _, _, rfl, _⟩ := h; rfl) | (obtain ⟨_, _, _, _, _, _, _, _, _, _, rfl, _⟩ := h; rfl) | (obtain ⟨_, _, _, _, _, _, _, _, _, _, _, rfl, _⟩ := h; rfl) | (obtain ⟨_, _, _, _, _, _, _, _, _, _, _, _, rfl, _⟩ := h; rfl) | (obtain ⟨_, _, _, _, _, _, _, _, _, _, _, _, _, rfl, _⟩ := h; rfl) | (obtain ⟨_, _, _, _, _, _, _, _, _, _, _, _, _, _, rfl, _⟩ := h; rfl) | (obtain ⟨_, _, _, _, _, _, _, _, _, _, _, _, _, _, _, rfl, _⟩ := h; rfl) | (obtain ⟨_, _, _, _, _, _, _, _, _, _, _, _, _, _, _, _, rfl, _⟩ := h; rfl) | (obtain ⟨_, _, _, _, _, _, _, _, _, _, _, _, _, _, _, _, _, rfl, _⟩ := h; rfl) | (obtain ⟨_, _, _, _, _, _, _, _, _, _, _, _, _, _, _, _, _, _, rfl, _⟩ := h; rfl) | (obtain ⟨_, _, _, _, _, _, _, _, _, _, _, _, _, _, _, _, _, _, _, rfl, _⟩ := h; rfl) | (obtain ⟨_, _, _, _, _, _, _, _, _, _, _, _, _, _, _, _, _, _, _, _, rfl, _⟩ := h; rfl) | (obtain ⟨_, _, _, _, _, _, _, _, _, _, _, _, _, _, _, _, _, _, _, _, _, rfl, _⟩ := h; rfl)
  · obtain ⟨a, S, M, vk, vp, vr, e, rfl, hs, hn, hz, k⟩ := h
    obtain ⟨vs, e1, e2⟩ := hs.ev
    refine ⟨_, PSs.nox (pss_one (ps_expr (pe_bm PySem.F.plainAttrs_list PySem.F.slot_list_append PySem.F.type_list_append mt_append (pe_fld (pv 0) rfl) (pa_cons (pe_ifExp (pt_cmpR op_isNQ (pv 3) pe_non (nomark _)) (pe_tup (pa_cons (pv 1) (pa_cons (pv 2) pa_nil))) (pe_tup (pa_cons (pv 1) (pa_cons (pv 2) (pa_cons (pv 3) pa_nil))))) pa_nil)))), ?_⟩
    wtm_at "go"
    refine i_fldK hs.ob T.c_Store T.n_Store_events stF_events ?_
    wtm_at "go"
    refine i_bmL e1 ?_
    wtm_at "go"
    cases e with
    | take pg r =>
      obtain ⟨rfl, rfl, b0, rfl, hr⟩ := hn
      rw [notNone_ref]
      refine iteF ?_
      wtm_at "go"
      refine i_tupK (of_decide_eq_true (by kernel_rfl)) fun b H1 nb hb s1 => ?_
      wtm_at "go"
      exact (hs.same s1).app_ev (e := .take pg r) ⟨b, _, rfl, hb, b0, rfl, s1 _ _ hr⟩ hz fun H2 h2 m2 => k H2 h2 ((Mv.same s1).trans m2)
    | give pg r =>
      obtain ⟨rfl, rfl, b0, rfl, hr⟩ := hn
      rw [notNone_ref]
      refine iteF ?_
      wtm_at "go"
      refine i_tupK (of_decide_eq_true (by kernel_rfl)) fun b H1 nb hb s1 => ?_
      wtm_at "go"
      exact (hs.same s1).app_ev (e := .give pg r) ⟨b, _, rfl, hb, b0, rfl, s1 _ _ hr⟩ hz fun H2 h2 m2 => k H2 h2 ((Mv.same s1).trans m2)
    | record pg n =>
      obtain ⟨rfl, rfl, rfl⟩ := hn
      rw [notNone_int]
      refine iteF ?_
      wtm_at "go"
      refine i_tupK (of_decide_eq_true (by kernel_rfl)) fun b H1 nb hb s1 => ?_
      wtm_at "go"
      exact (hs.same s1).app_ev (e := .record pg n) ⟨b, rfl, hb⟩ hz fun H2 h2 m2 => k H2 h2 ((Mv.same s1).trans m2)
    | put pg n =>
      obtain ⟨rfl, rfl, rfl⟩ := hn
      rw [notNone_int]
      refine iteF ?_
      wtm_at "go"
      refine i_tupK (of_decide_eq_true (by kernel_rfl)) fun b H1 nb hb s1 => ?_
      wtm_at "go"
      exact (hs.same s1).app_ev (e := .put pg n) ⟨b, rfl, hb⟩ hz fun H2 h2 m2 => k H2 h2 ((Mv.same s1).trans m2)
    | write pg =>
      obtain ⟨rfl, rfl, rfl⟩ := hn
      rw [show decide (V.non = V.non) = true from decide_eq_true rfl]
      refine iteT ?_
      wtm_at "go"
      refine i_tupK (of_decide_eq_true (by kernel_rfl)) fun b H1 nb hb s1 => ?_
      wtm_at "go"
      exact (hs.same s1).app_ev (e := .write pg) ⟨b, rfl, hb⟩ hz fun H2 h2 m2 => k H2 h2 ((Mv.same s1).trans m2)
    | free pg =>
      obtain ⟨rfl, rfl, rfl⟩ := hn
      rw [show decide (V.non = V.non) = true from decide_eq_true rfl]
      refine iteT ?_
      wtm_at "go"
      refine i_tupK (of_decide_eq_true (by kernel_rfl)) fun b H1 nb hb s1 => ?_
      wtm_at "go"
      exact (hs.same s1).app_ev (e := .free pg) ⟨b, rfl, hb⟩ hz fun H2 h2 m2 => k H2 h2 ((Mv.same s1).trans m2)
def sp_Store_make (K : PySem.W.Frag) : Sp := fun vs H Q _ => ∃ (p : Addr) (n : Int), vs = [.ref p, .int n] ∧ Q (.int n) H
theorem O_Store_make (T : Tx K mg) : MF P w K mg base CX0 (He.ga K "Store") "make" ["self", "number"] 1 (sp_Store_make K) := by
  obtain ⟨fd, F⟩ := T.F_Store_make
  refine ⟨_, fd, ?_, T.m_Store_make, F.bindsN fun _ _ _ _ _ _ us hl => match us, hl with | [_, _], _ => rfl⟩
  refine F.ok sc_Core_make (fun vs H Q E h => ?_) (fun cdv A outer s H vs Q E hr h => ?_)
  · first | (obtain ⟨rfl, _⟩ := h; rfl) | (obtain ⟨_, rfl, _⟩ := h; rfl) | (obtain ⟨_, _, rfl, _⟩ := h; rfl) | (obtain ⟨_, _, _, rfl, _⟩ := h; rfl) | (obtain ⟨_, _, _, _, rfl, _⟩ := h; rfl) | (obtain ⟨_, _, _, _, _, rfl, _⟩ := h; rfl) | (obtain ⟨_, _, _, _, _, _, rfl, _⟩ := h; rfl) | (obtain ⟨_, _, _, _, _, _, _, rfl, _⟩ := h; rfl) | (obtain ⟨_, _, _, _, _, _, _, _, rfl, _⟩ := h; rfl) | (obtain ⟨_, _, _, _, _, _, _, _, _, rfl, _⟩ := h; rfl) | (obtain ⟨_, _, _, _, _, _, _, _, _, _, rfl, _⟩ := h; rfl) | (obtain ⟨_, _, _, _, _, _, _, _, _, _, _, rfl, _⟩ := h; rfl) | (obtain ⟨_, _, _, _, _, _, _, _, _, _, _, _, rfl, _⟩ := h; rfl) | (obtain ⟨_, _, _, _, _, _, _, _, _, _, _, _, _, rfl, _⟩ := h; rfl) | (obtain ⟨_, _, _, _, _, _, _, _, _, _, _, _, _, _, rfl, _⟩ := h; rfl) | (obtain ⟨_, _, _, _, _, _, _, _, _, _, _, _, _, _, _, rfl, _⟩ := h; rfl) | (obtain ⟨_, _, _, _, _, _, _, _, _, _, _, _, _, _, _, _, rfl, _⟩ := h; rfl) | (obtain ⟨_, _, _, _, _, _, _, _, _, _, _, _, _, _, _, _, _, rfl, _⟩ := h; rfl) | (obtain ⟨_, _, _, _, _, _, _, _, _, _, _, _, _, _, _, _, _, _, rfl, _⟩ := h; rfl) | (obtain ⟨_, _, _, _, _, _, _, _, _, _, _, _, _, _, _, _, _, _, _, rfl, _⟩ := h; rfl) | (obtain ⟨_, _, _, _, _, _, _, _, _, _, _, _, _, _, _, _, _, _, _, _, rfl, _⟩ := h; rfl) | (obtain ⟨_, _, _, _, _, _, _, _, _, _, _, _, _, _, _, _, _, _, _, _, _, rfl, _⟩ := h; rfl)
  · obtain ⟨p, n, rfl, k⟩ := h
    refine ⟨_, PSs.nox (pss_one (ps_ret (pv 1))), ?_⟩
    wtm_at "go"
    exact k
def sp_Store_newest (K : PySem.W.Frag) : Sp := fun vs H Q _ => ∃ (a : SA) (S : Sett) (M : Sto), vs = [.ref a.p] ∧ StoreAt K a S M H ∧ Q (.int M.newest) H
theorem O_Store_newest (T : Tx K mg) : MF P w K mg base CX0 (He.ga K "Store") "newest" ["self"] 1 (sp_Store_newest K) := by
  obtain ⟨fd, F⟩ := T.F_Store_newest
  refine ⟨_, fd, ?_, T.m_Store_newest, F.bindsN fun _ _ _ _ _ _ us hl => match us, hl with | [_], _ => rfl⟩
  refine F.ok sc_Core_newest (fun vs H Q E h => ?_) (fun cdv A outer s H vs Q E hr h => ?_)
  · first | (obtain ⟨rfl, _⟩ := h; rfl) | (obtain ⟨_, rfl, _⟩ := h; rfl) | (obtain ⟨_, _, rfl, _⟩ := h; rfl) | (obtain ⟨_, _, _, rfl, _⟩ := h; rfl) | (obtain ⟨_, _, _, _, rfl, _⟩ := h; rfl) | (obtain ⟨_, _, _, _, _, rfl, _⟩ := h; rfl) | (obtain ⟨_, _, _, _, _, _, rfl, _⟩ := h; rfl) | (obtain ⟨_, _, _, _, _, _, _, rfl, _⟩ := h; rfl) | (obtain ⟨_, _, _, _, _, _, _, _, rfl, _⟩ := h; rfl) | (obtain ⟨_, _, _, _, _, _, _, _, _, rfl, _⟩ := h; rfl) | (obtain ⟨_, _, _, _, _, _, _, _, _, _, rfl, _⟩ := h; rfl) | (obtain ⟨_, _, _, _, _, _, _, _, _, _, _, rfl, _⟩ := h; rfl) | (obtain ⟨_, _, _, _, _, _, _, _, _, _, _, _, rfl, _⟩ := h; rfl) | (obtain ⟨_, _, _, _, _, _, _, _, _, _, _, _, _, rfl, _⟩ := h; rfl) | (obtain ⟨_, _, _, _, _, _, _, _, _, _, _, _, _, _, rfl, _⟩ := h; rfl) | (obtain ⟨_, _, _, _, _, _, _, _, _, _, _, _, _, _, _, rfl, _⟩ := h; rfl) | (obtain ⟨_, _, _, _, _, _, _, _, _, _, _, _, _, _, _, _, rfl, _⟩ := h; rfl) | (obtain ⟨_, _, _, _, _, _, _, _, _, _, _, _, _, _, _, _, _, rfl, _⟩ := h; rfl) | (obtain ⟨_, _, _, _, _, _, _, _, _, _, _, _, _, _, _, _, _, _, rfl, _⟩ := h; rfl) | (obtain ⟨_, _, _, _, _, _, _, _, _, _, _, _, _, _, _, _, _, _, _, rfl, _⟩ := h; rfl) | (obtain ⟨_, _, _, _, _, _, _, _, _, _, _, _, _, _, _, _, _, _, _, _, rfl, _⟩ := h; rfl) | (obtain ⟨_, _, _, _, _, _, _, _, _, _, _, _, _, _, _, _, _, _, _, _, _, rfl, _⟩ := h; rfl)
  · obtain ⟨a, S, M, rfl, hs, k⟩ := h
    refine ⟨_, PSs.nox (pss_one (ps_ret (pe_op op_sub (pe_op op_add (pe_fld (pv 0) rfl) (pe_callB call_lenQ (by rfl) T.f_len PySem.boot_len (pa_cons (pe_fld (pv 0) rfl) pa_nil))) pe_int))), ?_⟩
    wtm_at "go"
    refine i_fldK hs.ob T.c_Store T.n_Store_oldest stF_oldest ?_
    wtm_at "go"
    refine i_fldK hs.ob T.c_Store T.n_Store_heap stF_heap ?_
    wtm_at "go"
    refine q_lenL hs.heap ?_
    wtm_at "go"
    rw [List.length_map]
    exact k
def sp_Store_take (K : PySem.W.Frag) : Sp := fun vs H Q _ => ∃ (a : SA) (S : Sett) (M : Sto) (rv : V) (r : Role), vs = [.ref a.p, rv] ∧ StoreAt K a S M H ∧ RoleAt H rv r ∧ M.ev.length < sizeLine ∧ ∀ H', StoreAt K a S (M.take r) H' → Mv a H a H' → Q (.int M.takeP) H'
theorem O_Store_take (T : Tx K mg) : MF P w K mg base CX0 (He.ga K "Store") "take" ["self", "role"] 2 (sp_Store_take K) := by
  have O_Store_make := O_Store_make (P := P) (w := w) (base := base) T
  have O_Store_note := O_Store_note (P := P) (w := w) (base := base) T
  obtain ⟨fd, F⟩ := T.F_Store_take
  refine ⟨_, fd, ?_, T.m_Store_take, F.bindsN fun _ _ _ _ _ _ us hl => match us, hl with | [_, _], _ => rfl⟩
  refine F.ok sc_Core_take (fun vs H Q E h => ?_) (fun cdv A outer s H vs Q E hr h => ?_)
  · first | (obtain ⟨rfl, _⟩ := h; rfl) | (obtain ⟨_, rfl, _⟩ := h; rfl) | (obtain ⟨_, _, rfl, _⟩ := h; rfl) | (obtain ⟨_, _, _, rfl, _⟩ := h; rfl) | (obtain ⟨_, _, _, _, rfl, _⟩ := h; rfl) | (obtain ⟨_, _, _, _, _, rfl, _⟩ := h; rfl) | (obtain ⟨_, _, _, _, _, _, rfl, _⟩ := h; rfl) | (obtain ⟨_, _, _, _, _, _, _, rfl, _⟩ := h; rfl) | (obtain ⟨_, _, _, _, _, _, _, _, rfl, _⟩ := h; rfl) | (obtain ⟨_, _, _, _, _, _, _, _, _, rfl, _⟩ := h; rfl) | (obtain ⟨_, _, _, _, _, _, _, _, _, _, rfl, _⟩ := h; rfl) | (obtain ⟨_, _, _, _, _, _, _, _, _, _, _, rfl, _⟩ := h; rfl) | (obtain ⟨_, _, _, _, _, _, _, _, _, _, _, _, rfl, _⟩ := h; rfl) | (obtain ⟨_, _, _, _, _, _, _, _, _, _, _, _, _, rfl, _⟩ := h; rfl) | (obtain ⟨_, _, _, _, _, _, _, _, _, _, _, _, _, _, rfl, _⟩ := h; rfl) | (obtain ⟨_, _, _, _, _, _, _, _, _, _, _, _, _, _, _, rfl, _⟩ := h; rfl) | (obtain ⟨_, _, _, _, _, _, _, _, _, _, _, _, _, _, _, _, rfl, _⟩ := h; rfl) | (obtain ⟨_, _, _, _, _, _, _, _, _, _, _, _, _, _, _, _, _, rfl, _⟩ := h; rfl) | (obtain ⟨_, _, _, _, _, _, _, _, _, _, _, _, _, _, _, _, _, _, rfl, _⟩ := h; rfl) | (obtain ⟨_, _, _, _, _, _, _, _, _, _, _, _, _, _, _, _, _, _, _, rfl, _⟩ := h; rfl) | (obtain ⟨_, _, _, _, _, _, _, _, _, _, _, _, _, _, _, _, _, _, _, _, rfl, _⟩ := h; rfl) | (obtain ⟨_, _, _, _, _, _, _, _, _, _, _, _, _, _, _, _, _, _, _, _, _, rfl, _⟩ := h; rfl)
  · obtain ⟨a, S, M, rv, r, rfl, hs, hro, hz, k⟩ := h
    refine ⟨_, PSs.nox (pss_cons (ps_if (pt_cmpR (op_neD hr.units) (pe_fld (pv 0) rfl) (pe_lst pa_nil) (nomark _))
  (pss_one (ps_set (i := 2) sc_Core_take.nd rfl (Or.inl rfl) (pe_bm0 PySem.F.plainAttrs_list PySem.F.slot_list_pop PySem.F.type_list_pop mt_pop (pe_fld (pv 0) rfl))))
  (pss_cons (ps_set (i := 2) sc_Core_take.nd rfl (Or.inl rfl) (pm O_Store_make T.c_Store hr pass0 (pv 0) (pa_cons (pe_fld (pv 0) rfl) pa_nil)))
  (pss_one (ps_fldaug (pv 0) pe_int in_add))))
  (pss_cons (ps_expr (pm O_Store_note T.c_Store hr pass0 (pv 0) (pa_cons pe_str (pa_cons (pv 2) (pa_cons (pv 1) pa_nil)))))
  (pss_one (ps_ret (pv 2))))), ?_⟩
    wtm_at "go"
    refine i_fldK hs.ob T.c_Store T.n_Store_free_row stF_free_row ?_
    wtm_at "go"
    refine i_lstK (of_decide_eq_true (by kernel_rfl)) fun l H1 nl hl s1 => ?_
    have h1 := hs.same s1
    wtm_at "go"
    refine q_neNil h1.free hl ?_
    wtm_at "go"
    unfold Sto.take Sto.takeP at k
    by_cases hf : M.free = []
    · rw [if_pos hf] at k
      rw [if_pos hf] at k
      rw [show (!decide (M.free = [])) = false by simp [hf]]
      refine iteF ?_
      wtm_at "go"
      refine i_methK h1.ob stF_no_make ?_
      wtm_at "go"
      refine i_fldK h1.ob T.c_Store T.n_Store_taken_count stF_taken_count ?_
      wtm_at "go"
      refine ⟨_, _, rfl, ?_⟩
      wtm_at "go"
      refine i_augK h1.ob T.c_Store T.n_Store_taken_count stF_taken_count ?_
      wtm_at "go"
      refine h1.fin_taken fun H2 h2 m2 => ?_
      wtm_at "go"
      refine i_methK h2.ob stF_no_note ?_
      wtm_at "go"
      refine ⟨a, S, _, _, _, _, .take M.taken r, rfl, h2, ⟨rfl, rfl, hro.keep ((TupKeep.of_same s1).trans m2.tups)⟩, hz, fun H3 h3 m3 => ?_⟩
      wtm_at "go"
      exact k H3 h3 (((Mv.same s1).trans m2).trans m3)
    · rw [if_neg hf] at k
      rw [if_neg hf] at k
      rw [show (!decide (M.free = [])) = true by simp [hf]]
      refine iteT ?_
      wtm_at "go"
      refine i_fldK h1.ob T.c_Store T.n_Store_free_row stF_free_row ?_
      wtm_at "go"
      refine i_bmL h1.free ?_
      refine h1.pop_free hf fun H2 h2 m2 => ?_
      wtm_at "go"
      refine i_methK h2.ob stF_no_note ?_
      wtm_at "go"
      refine ⟨a, S, _, _, _, _, .take (M.free.getLastD 0) r, rfl, h2, ⟨rfl, rfl, hro.keep ((TupKeep.of_same s1).trans m2.tups)⟩, hz, fun H3 h3 m3 => ?_⟩
      wtm_at "go"
      exact k H3 h3 (((Mv.same s1).trans m2).trans m3)
def sp_Store_give (K : PySem.W.Frag) : Sp := fun vs H Q _ => ∃ (a : SA) (S : Sett) (M : Sto) (pg : Int) (rv : V) (r : Role), vs = [.ref a.p, .int pg, rv] ∧ StoreAt K a S M H ∧ RoleAt H rv r ∧ M.ev.length < sizeLine ∧ M.waiting.length < sizeLine ∧ ∀ H', StoreAt K a S (M.give pg r) H' → Mv a H a H' → Q .non H'
theorem O_Store_give (T : Tx K mg) : MF P w K mg base CX0 (He.ga K "Store") "give" ["self", "page", "role"] 2 (sp_Store_give K) := by
  have O_Store_note := O_Store_note (P := P) (w := w) (base := base) T
  obtain ⟨fd, F⟩ := T.F_Store_give
  refine ⟨_, fd, ?_, T.m_Store_give, F.bindsN fun _ _ _ _ _ _ us hl => match us, hl with | [_, _, _], _ => rfl⟩
  refine F.ok sc_Core_give (fun vs H Q E h => ?_) (fun cdv A outer s H vs Q E hr h => ?_)
  · first | (obtain ⟨rfl, _⟩ := h; rfl) | (obtain ⟨_, rfl, _⟩ := h; rfl) | (obtain ⟨_, _, rfl, _⟩ := h; rfl) | (obtain ⟨_, _, _, rfl, _⟩ := h; rfl) | (obtain ⟨_, _, _, _, rfl, _⟩ := h; rfl) | (obtain ⟨_, _, _, _, _, rfl, _⟩ := h; rfl) | (obtain ⟨_, _, _, _, _, _, rfl, _⟩ := h; rfl) | (obtain ⟨_, _, _, _, _, _, _, rfl, _⟩ := h; rfl) | (obtain ⟨_, _, _, _, _, _, _, _, rfl, _⟩ := h; rfl) | (obtain ⟨_, _, _, _, _, _, _, _, _, rfl, _⟩ := h; rfl) | (obtain ⟨_, _, _, _, _, _, _, _, _, _, rfl, _⟩ := h; rfl) | (obtain ⟨_, _, _, _, _, _, _, _, _, _, _, rfl, _⟩ := h; rfl) | (obtain ⟨_, _, _, _, _, _, _, _, _, _, _, _, rfl, _⟩ := h; rfl) | (obtain ⟨_, _, _, _, _, _, _, _, _, _, _, _, _, rfl, _⟩ := h; rfl) | (obtain ⟨_, _, _, _, _, _, _, _, _, _, _, _, _, _, rfl, _⟩ := h; rfl) | (obtain ⟨_, _, _, _, _, _, _, _, _, _, _, _, _, _, _, rfl, _⟩ := h; rfl) | (obtain ⟨_, _, _, _, _, _, _, _, _, _, _, _, _, _, _, _, rfl, _⟩ := h; rfl) | (obtain ⟨_, _, _, _, _, _, _, _, _, _, _, _, _, _, _, _, _, rfl, _⟩ := h; rfl) | (obtain ⟨_, _, _, _, _, _, _, _, _, _, _, _, _, _, _, _, _, _, rfl, _⟩ := h; rfl) | (obtain ⟨_, _, _, _, _, _, _, _, _, _, _, _, _, _, _, _, _, _, _, rfl, _⟩ := h; rfl) | (obtain ⟨_, _, _, _, _, _, _, _, _, _, _, _, _, _, _, _, _, _, _, _, rfl, _⟩ := h; rfl) | (obtain ⟨_, _, _, _, _, _, _, _, _, _, _, _, _, _, _, _, _, _, _, _, _, rfl, _⟩ := h; rfl)
  · obtain ⟨a, S, M, pg, rv, r, rfl, hs, hro, hz, hw, k⟩ := h
    refine ⟨_, PSs.nox (pss_cons (ps_expr (pe_dpop2 (pe_fld (pv 0) rfl) (pv 1) pe_non ⟨rfl, rfl, rfl, rfl⟩))
  (pss_cons (ps_expr (pe_bm PySem.F.plainAttrs_list PySem.F.slot_list_append PySem.F.type_list_append mt_append (pe_fld (pv 0) rfl) (pa_cons (pv 1) pa_nil)))
  (pss_one (ps_expr (pm O_Store_note T.c_Store hr pass0 (pv 0) (pa_cons pe_str (pa_cons (pv 1) (pa_cons (pv 2) pa_nil)))))))), ?_⟩
    wtm_at "go"
    refine i_fldK hs.ob T.c_Store T.n_Store_changed stF_changed ?_
    refine i_isdK hs.changed ?_
    wtm_at "go"
    refine hs.pop_changed fun v H1 h1 m1 => ?_
    wtm_at "go"
    refine i_fldK h1.ob T.c_Store T.n_Store_waiting stF_waiting ?_
    refine i_bmL h1.waiting ?_
    wtm_at "go"
    refine h1.app_waiting hw fun H2 h2 m2 => ?_
    wtm_at "go"
    refine i_methK h2.ob stF_no_note ?_
    wtm_at "go"
    refine ⟨a, S, _, _, _, _, .give pg r, rfl, h2, ⟨rfl, rfl, hro.keep (m1.tups.trans m2.tups)⟩, hz, fun H3 h3 m3 => ?_⟩
    wtm_at "go"
    exact k H3 h3 ((m1.trans m2).trans m3)
def sp_Store_change (K : PySem.W.Frag) : Sp := fun vs H Q _ => ∃ (a : SA) (S : Sett) (M : Sto) (l n : Int), vs = [.ref a.p, .int l, .int n] ∧ StoreAt K a S M H ∧ M.changed.length < sizeLine ∧ ∀ H', StoreAt K a S (M.change l n) H' → Mv a H a H' → Q .non H'
theorem O_Store_change (T : Tx K mg) : MF P w K mg base CX0 (He.ga K "Store") "change" ["self", "level", "number"] 1 (sp_Store_change K) := by
  obtain ⟨fd, F⟩ := T.F_Store_change
  refine ⟨_, fd, ?_, T.m_Store_change, F.bindsN fun _ _ _ _ _ _ us hl => match us, hl with | [_, _, _], _ => rfl⟩
  refine F.ok sc_Core_change (fun vs H Q E h => ?_) (fun cdv A outer s H vs Q E hr h => ?_)
  · first | (obtain ⟨rfl, _⟩ := h; rfl) | (obtain ⟨_, rfl, _⟩ := h; rfl) | (obtain ⟨_, _, rfl, _⟩ := h; rfl) | (obtain ⟨_, _, _, rfl, _⟩ := h; rfl) | (obtain ⟨_, _, _, _, rfl, _⟩ := h; rfl) | (obtain ⟨_, _, _, _, _, rfl, _⟩ := h; rfl) | (obtain ⟨_, _, _, _, _, _, rfl, _⟩ := h; rfl) | (obtain ⟨_, _, _, _, _, _, _, rfl, _⟩ := h; rfl) | (obtain ⟨_, _, _, _, _, _, _, _, rfl, _⟩ := h; rfl) | (obtain ⟨_, _, _, _, _, _, _, _, _, rfl, _⟩ := h; rfl) | (obtain ⟨_, _, _, _, _, _, _, _, _, _, rfl, _⟩ := h; rfl) | (obtain ⟨_, _, _, _, _, _, _, _, _, _, _, rfl, _⟩ := h; rfl) | (obtain ⟨_, _, _, _, _, _, _, _, _, _, _, _, rfl, _⟩ := h; rfl) | (obtain ⟨_, _, _, _, _, _, _, _, _, _, _, _, _, rfl, _⟩ := h; rfl) | (obtain ⟨_, _, _, _, _, _, _, _, _, _, _, _, _, _, rfl, _⟩ := h; rfl) | (obtain ⟨_, _, _, _, _, _, _, _, _, _, _, _, _, _, _, rfl, _⟩ := h; rfl) | (obtain ⟨_, _, _, _, _, _, _, _, _, _, _, _, _, _, _, _, rfl, _⟩ := h; rfl) | (obtain ⟨_, _, _, _, _, _, _, _, _, _, _, _, _, _, _, _, _, rfl, _⟩ := h; rfl) | (obtain ⟨_, _, _, _, _, _, _, _, _, _, _, _, _, _, _, _, _, _, rfl, _⟩ := h; rfl) | (obtain ⟨_, _, _, _, _, _, _, _, _, _, _, _, _, _, _, _, _, _, _, rfl, _⟩ := h; rfl) | (obtain ⟨_, _, _, _, _, _, _, _, _, _, _, _, _, _, _, _, _, _, _, _, rfl, _⟩ := h; rfl) | (obtain ⟨_, _, _, _, _, _, _, _, _, _, _, _, _, _, _, _, _, _, _, _, _, rfl, _⟩ := h; rfl)
  · obtain ⟨a, S, M, l, n, rfl, hs, hz, k⟩ := h
    refine ⟨_, PSs.nox (pss_cons (ps_set (i := 3) sc_Core_change.nd rfl (Or.inl rfl) (pe_dget1 (hu_of hr) (pe_fld (pv 0) rfl) (pe_tup (pa_cons (pv 1) (pa_cons (pv 2) pa_nil))) ⟨rfl, rfl, rfl, rfl⟩))
  (pss_one (ps_if (pt_cmpR op_notNQ (pv 3) pe_non (nomark _))
  (pss_one (ps_dput (hu_of hr) (pe_fld (pv 0) rfl) (pv 3) pe_bl rfl))
  pss_nil))), ?_⟩
    wtm_at "go"
    refine i_fldK hs.ob T.c_Store T.n_Store_node_places stF_node_places ?_
    refine i_isdT hs.nodes ?_
    wtm_at "go"
    refine i_tupK (of_decide_eq_true (by kernel_rfl)) fun b H1 nb hb s1 => ?_
    have h1 := hs.same s1
    refine ⟨_, h1.get_nodes (q := (l, n)) hb, ?_⟩
    wtm_at "go"
    unfold Sto.change at k
    cases hl : lookN M.nodes (l, n) with
    | none =>
      rw [hl] at k
      show if (!decide (V.non = V.non)) = true then _ else _
      rw [show (!decide (V.non = V.non)) = false by simp]
      refine iteF ?_
      wtm_at "go"
      exact k H1 h1 (Mv.same s1)
    | some pg =>
      rw [hl] at k
      show if (!decide (V.int pg = V.non)) = true then _ else _
      rw [notNone_int]
      refine iteT ?_
      wtm_at "go"
      refine i_fldK h1.ob T.c_Store T.n_Store_changed stF_changed ?_
      wtm_at "go"
      exact h1.put_changed hz fun H2 h2 m2 => k H2 h2 ((Mv.same s1).trans m2)
end
end K90


namespace K90
open PySem PySem.Spec PyProof.Rows L2 KR
local macro_rules | `(tactic| wtm_at "go1") => `(tactic| first
  | (with_reducible refine i_seq ?_) | ((with_reducible refine' i_var ?k1 ?_); (case k1 => exact rfl)) | (with_reducible refine i_c ?_) | (with_reducible refine i_asg ?_) | (with_reducible refine i_name ?_)
  | (with_reducible refine i_ret ?_) | (with_reducible refine i_retN ?_) | (with_reducible refine i_drop ?_) | (with_reducible refine i_next ?_) | (with_reducible refine i_op ?_) | (with_reducible refine i_rI0 ?_)
  | (with_reducible refine i_fld ?_) | (with_reducible refine i_setf ?_) | (with_reducible refine i_augf ?_) | (with_reducible refine i_meth ?_) | (with_reducible refine i_cons ?_) | (with_reducible refine i_nil ?_)
  | (with_reducible refine i_call ?_) | (with_reducible refine i_cb ?_) | (with_reducible refine i_test ?_) | (with_reducible refine i_tB ?_) | (with_reducible refine i_bl ?_) | (with_reducible refine i_not ?_)
  | (with_reducible refine i_if ?_) | (with_reducible refine i_ifE ?_) | (with_reducible refine i_andV ?_) | (with_reducible refine i_orV ?_) | (with_reducible refine i_notV ?_) | (with_reducible refine i_and ?_) | (with_reducible refine i_or ?_)
  | (with_reducible refine i_rEqI ?_) | (with_reducible refine i_rNeI ?_) | (with_reducible refine i_un ?_) | (with_reducible refine i_rU ?_) | (with_reducible refine i_chain ?_) | (with_reducible refine i_tpar ?_) | (with_reducible refine i_par ?_) | (with_reducible refine i_tpar3 ?_) | (with_reducible refine i_par3 ?_)
  | ((with_reducible refine' i_aug ?k1 ?_); (case k1 => exact rfl)) | (with_reducible refine i_ipI ?_) | (with_reducible refine i_tup ?_) | (with_reducible refine i_lst ?_) | (with_reducible refine i_bm ?_) | (with_reducible refine i_bm0 ?_)
  | (with_reducible refine i_for ?_) | (with_reducible refine i_list ?_) | (with_reducible refine i_rng1 ?_) | (with_reducible refine i_keys ?_) | (with_reducible refine i_lc ?_) | (with_reducible refine i_yes ?_) | (with_reducible refine i_dput ?_)
  | (with_reducible refine i_dget ?_) | (with_reducible refine i_din ?_) | (with_reducible refine i_dnotin ?_) | (with_reducible refine i_dget1 ?_) | (with_reducible refine i_dget2 ?_) | (with_reducible refine i_dpop2 ?_)
  | (with_reducible refine q_max2 ?_) | (with_reducible refine q_min2 ?_) | (with_reducible refine q_notN ?_) | (with_reducible refine q_isN ?_) | (with_reducible refine i_gtup ?_) | (with_reducible refine i_gcons ?_) | (with_reducible refine i_gnil ?_) | (with_reducible refine i_make ?_) | (with_reducible refine i_dnewK ?_) | (with_reducible refine i_dnewT ?_)
  | (with_reducible refine q_int1 ?_) | (with_reducible refine q_int1b ?_) | (with_reducible refine i_sl ?_) | (with_reducible refine i_npart ?_) | (with_reducible refine i_part ?_) | (with_reducible refine i_pint ?_) | (with_reducible refine i_pcons ?_) | (with_reducible refine i_pnil ?_) | (with_reducible refine i_gsub ?_) | (with_reducible refine i_makeKw ?_)
  | (with_reducible refine i_rAdd ?_) | (with_reducible refine i_rSub ?_) | (with_reducible refine i_isN ?_))
local macro_rules | `(tactic| wtm_at "go") => `(tactic| repeat (wtm_at "go1"))

theorem isortI_spec (l : List Int) : (isortI l).Perm l ∧ (isortI l).Pairwise (· ≤ ·) := by
  refine ⟨List.mergeSort_perm _ _, ?_⟩
  have h := List.pairwise_mergeSort (le := fun a b : Int => decide (a ≤ b)) (fun a b c h1 h2 => by
    have := of_decide_eq_true h1
    have := of_decide_eq_true h2
    exact decide_eq_true (by omega)) (fun a b => by
    by_cases h : a ≤ b
    · simp [h]
    · have : b ≤ a := by omega
      simp [this]) l
  exact h.imp fun h => of_decide_eq_true h
theorem isortI_eq {l zs : List Int} (p : zs.Perm l) (h : zs.Pairwise (· ≤ ·)) : zs = isortI l := sorted_one (p.trans (isortI_spec l).1.symm) h (isortI_spec l).2
theorem ne_tup {o : HO} {xs : List V} (h : ∀ xs, o ≠ .tup xs) : (some o : Option HO) ≠ some (.tup xs) := fun e => h xs (Option.some.inj e)
section
variable {K : PySem.W.Frag} {a a' : SA} {S : Sett} {M : Sto} {H H0 : Hp}
theorem Mv.loc {H' : Hp} (m : Mv a H a' H') {q : Addr} {o : HO} (n : q ∉ a.dom) (e : H q = some o) : H' q = some o := m.keep q o e fun z => n (by rw [SA.dom_eq]; exact List.mem_append_left _ z)
theorem dom_of {b : Addr} (h : b ∉ a.dom) (m : Mv a H a' H0) (e : ∃ o, H b = some o) : b ∉ a'.dom := fun z => by
  rw [SA.dom_eq] at z
  rcases List.mem_append.mp z with z | z
  · rcases m.ext b z with z | z
    · exact h (by rw [SA.dom_eq]; exact List.mem_append_left _ z)
    · obtain ⟨o, e⟩ := e
      rw [e] at z; cases z
  · rw [m.supp] at z
    exact h (by rw [SA.dom_eq]; exact List.mem_append_right _ z)
end
section
variable {P : Program} {w : World} {K : PySem.W.Frag} {mg : Str → Option Value} {base : Heap}
def sp_Store_checkpoint (K : PySem.W.Frag) : Sp := fun vs H Q _ => ∃ (a : SA) (S : Sett) (M : Sto) (n : Nat), vs = [.ref a.p] ∧ StoreAt K a S M H ∧ M.Sz n ∧ 4 * n + 10 ≤ sizeLine ∧ ∀ H' a', StoreAt K a' S M.checkpoint H' → Mv a H a' H' → Q .non H'
theorem O_Store_checkpoint (T : Tx K mg) : MF P w K mg base CX0 (He.ga K "Store") "checkpoint" ["self"] 2 (sp_Store_checkpoint K) := by
  have O_Store_note := O_Store_note (P := P) (w := w) (base := base) T
  obtain ⟨fd, F⟩ := T.F_Store_checkpoint
  refine ⟨_, fd, ?_, T.m_Store_checkpoint, F.bindsN fun _ _ _ _ _ _ us hl => match us, hl with | [_], _ => rfl⟩
  refine F.ok sc_Core_checkpoint (fun vs H Q E h => ?_) (fun cdv A outer s H vs Q E hr h => ?_)
  · first | (obtain ⟨rfl, _⟩ := h; rfl) | (obtain ⟨_, rfl, _⟩ := h; rfl) | (obtain ⟨_, _, rfl, _⟩ := h; rfl) | (obtain ⟨_, _, _, rfl, _⟩ := h; rfl) | (obtain ⟨_, _, _, _, rfl, _⟩ := h; rfl) | (obtain ⟨_, _, _, _, _, rfl, _⟩ := h; rfl) | (obtain ⟨_, _, _, _, _, _, rfl, _⟩ := h; rfl) | (obtain ⟨_, _, _, _, _, _, _, rfl, _⟩ := h; rfl) | (obtain ⟨_, _, _, _, _, _, _, _, rfl, _⟩ := h; rfl) | (obtain ⟨_, _, _, _, _, _, _, _, _, rfl, _⟩ := h; rfl) | (obtain ⟨_, _, _, _, _, _, _, _, _, _, rfl, _⟩ := h; rfl) | (obtain ⟨_, _, _, _, _, _, _, _, _, _, _, rfl, _⟩ := h; rfl) | (obtain ⟨_, _, _, _, _, _, _, _, _, _, _, _, rfl, _⟩ := h; rfl) | (obtain ⟨_, _, _, _, _, _, _, _, _, _, _, _, _, rfl, _⟩ := h; rfl) | (obtain ⟨_, _, _, _, _, _, _, _, _, _, _, _, _, _, rfl, _⟩ := h; rfl) | (obtain ⟨_, _, _, _, _, _, _, _, _, _, _, _, _, _, _, rfl, _⟩ := h; rfl) | (obtain ⟨_, _, _, _, _, _, _, _, _, _, _, _, _, _, _, _, rfl, _⟩ := h; rfl) | (obtain ⟨_, _, _, _, _, _, _, _, _, _, _, _, _, _, _, _, _, rfl, _⟩ := h; rfl) | (obtain ⟨_, _, _, _, _, _, _, _, _, _, _, _, _, _, _, _, _, _, rfl, _⟩ := h; rfl) | (obtain ⟨_, _, _, _, _, _, _, _, _, _, _, _, _, _, _, _, _, _, _, rfl, _⟩ := h; rfl) | (obtain ⟨_, _, _, _, _, _, _, _, _, _, _, _, _, _, _, _, _, _, _, _, rfl, _⟩ := h; rfl) | (obtain ⟨_, _, _, _, _, _, _, _, _, _, _, _, _, _, _, _, _, _, _, _, _, rfl, _⟩ := h; rfl)
  · obtain ⟨a, S, M, n, rfl, hs, hz, hn, k⟩ := h
    obtain ⟨z1, z2, z3, z4, z5, z6, z7⟩ := hz
    refine ⟨_, PSs.nox (pss_cons (ps_for PassesOwn.never rfl (pi_list (pe_callB (call_sortedDict rfl) (by rfl) T.f_sorted (by decide +kernel) (pa_cons (pe_fld (pv 0) rfl) pa_nil))) (pg_name (i := 1) sc_Core_checkpoint.nd rfl (Or.inl rfl))
  (pss_one (ps_expr (pm O_Store_note T.c_Store hr pass0 (pv 0) (pa_cons pe_str (pa_cons (pv 1) (pa_cons pe_non pa_nil)))))))
  (pss_cons (ps_fld (pv 0) pe_dnewK rfl)
  (pss_cons (ps_for PassesOwn.never rfl (pi_list (pe_op op_cat (pe_fld (pv 0) rfl) (pe_fld (pv 0) rfl))) (pg_name (i := 1) sc_Core_checkpoint.nd rfl (Or.inl rfl))
  (pss_cons (ps_expr (pe_bm PySem.F.plainAttrs_list PySem.F.slot_list_append PySem.F.type_list_append mt_append (pe_fld (pv 0) rfl) (pa_cons (pv 1) pa_nil)))
  (pss_one (ps_expr (pm O_Store_note T.c_Store hr pass0 (pv 0) (pa_cons pe_str (pa_cons (pv 1) (pa_cons pe_non pa_nil))))))))
  (pss_cons (ps_fld (pv 0) (pe_lst pa_nil) rfl)
  (pss_one (ps_fld (pv 0) (pe_lst pa_nil) rfl)))))), ?_⟩
    wtm_at "go"
    refine i_fldK hs.ob T.c_Store T.n_Store_changed stF_changed ?_
    wtm_at "go"
    refine q_sortedD hs.changed (ks := M.changed) (by simp [chV]) fun zs p1 p2 => ?_
    obtain rfl := isortI_eq p1 p2
    have hsl : (isortI M.changed).length = M.changed.length := by unfold isortI; exact List.length_mergeSort _
    intro q H1 nq hq s1
    have nqd := hs.fresh nq
    refine i_listK (SqL.of hq) ?_
    refine i_forK walk_list (fun i σ H' => StoreAt K a S { M with ev := M.ev ++ ((isortI M.changed).take i).map .write } H' ∧ Mv a H1 a H' ∧ ∃ v, σ = [some (.ref a.p), v]) ⟨by simpa using hs.same s1, Mv.refl _ _, _, rfl⟩
      (fun i σ H' _ ⟨_, m, _⟩ => SqL.of (m.loc nqd hq)) ?_ ?_
    · rintro i x σ H2 _ hi ⟨h2, m2, v, rfl⟩ ⟨rfl, hx⟩
      rw [List.getElem?_map] at hx
      obtain ⟨y, hy, rfl⟩ := Option.map_eq_some_iff.mp hx
      wtm_at "go"
      refine i_methK h2.ob stF_no_note ?_
      wtm_at "go"
      refine ⟨a, S, _, _, _, _, .write y, rfl, h2, ⟨rfl, rfl, rfl⟩, by simp [List.length_take]; omega, fun H3 h3 m3 => ?_⟩
      wtm_at "go"
      refine ⟨?_, m2.trans m3, _, rfl⟩
      rw [List.take_succ, hy]
      simpa [Sto.note] using h3
    · rintro σ H2 ⟨h2, m2, v, rfl⟩
      rw [List.length_map, List.take_length] at h2
      wtm_at "go"
      intro d H3 nd hd s3
      wtm_at "go"
      refine h2.nw_changed s3 nd hd T.c_Store T.n_Store_changed fun a4 H4 h4 m4 => ?_
      wtm_at "go"
      rw [show V.ref a.p = V.ref a4.p by rw [m4.p]]
      refine i_fldK h4.ob T.c_Store T.n_Store_waiting stF_waiting ?_
      wtm_at "go"
      refine i_fldK h4.ob T.c_Store T.n_Store_log stF_log ?_
      refine q_cat h4.waiting h4.log (by simp; omega) fun r H5 nr hr s5 => ?_
      have nrd := h4.fresh nr
      have h5 := h4.same s5
      wtm_at "go"
      refine i_listK (SqL.of hr) ?_
      refine i_forK walk_list (fun i σ H' => StoreAt K a4 S { M with ev := M.ev ++ (isortI M.changed).map .write ++ ((M.waiting ++ M.log).take i).map .free, changed := [], free := M.free ++ (M.waiting ++ M.log).take i } H' ∧ Mv a4 H5 a4 H' ∧ ∃ v, σ = [some (.ref a4.p), v]) ⟨by simpa using h5, Mv.refl _ _, _, by rw [m4.p]⟩
        (fun i σ H' _ ⟨_, m, _⟩ => SqL.of (m.loc nrd hr)) ?_ ?_
      · rintro i x σ H6 _ hi ⟨h6, m6, v, rfl⟩ ⟨rfl, hx⟩
        rw [← List.map_append, List.getElem?_map] at hx
        obtain ⟨y, hy, rfl⟩ := Option.map_eq_some_iff.mp hx
        wtm_at "go"
        refine i_fldK h6.ob T.c_Store T.n_Store_free_row stF_free_row ?_
        refine i_bmL h6.free ?_
        wtm_at "go"
        refine h6.app_free (by simp [List.length_take]; omega) fun H7 h7 m7 => ?_
        wtm_at "go"
        refine i_methK h7.ob stF_no_note ?_
        wtm_at "go"
        refine ⟨a4, S, _, _, _, _, .free y, rfl, h7, ⟨rfl, rfl, rfl⟩, by simp [List.length_take, hsl]; omega, fun H8 h8 m8 => ?_⟩
        wtm_at "go"
        refine ⟨?_, (m6.trans m7).trans m8, _, rfl⟩
        rw [List.take_succ, hy]
        simpa [Sto.note] using h8
      · rintro σ H6 ⟨h6, m6, v, rfl⟩
        have e6 : (M.waiting.map V.int ++ M.log.map V.int).length = (M.waiting ++ M.log).length := by simp
        rw [e6, List.take_length] at h6
        wtm_at "go"
        refine i_lstK (of_decide_eq_true (by kernel_rfl)) fun l7 H7 n7 hl7 s7 => ?_
        wtm_at "go"
        refine h6.nw_waiting s7 n7 hl7 T.c_Store T.n_Store_waiting fun a8 H8 h8 m8 => ?_
        wtm_at "go"
        refine i_lstK (of_decide_eq_true (by kernel_rfl)) fun l9 H9 n9 hl9 s9 => ?_
        wtm_at "go"
        rw [show V.ref a4.p = V.ref a8.p by rw [m8.p]]
        refine h8.nw_log s9 n9 hl9 T.c_Store T.n_Store_log fun a10 H10 h10 m10 => ?_
        refine k H10 a10 ?_ ((((((Mv.same s1).trans m2).trans m4).trans (Mv.same s5)).trans m6).trans (m8.trans m10))
        simpa [Sto.checkpoint] using h10
end
end K90


namespace K90
open PySem PySem.Spec PyProof.Rows L2 KR
local macro_rules | `(tactic| wtm_at "go1") => `(tactic| first
  | (with_reducible refine i_seq ?_) | ((with_reducible refine' i_var ?k1 ?_); (case k1 => exact rfl)) | (with_reducible refine i_c ?_) | (with_reducible refine i_asg ?_) | (with_reducible refine i_name ?_)
  | (with_reducible refine i_ret ?_) | (with_reducible refine i_retN ?_) | (with_reducible refine i_drop ?_) | (with_reducible refine i_next ?_) | (with_reducible refine i_op ?_) | (with_reducible refine i_rI0 ?_)
  | (with_reducible refine i_fld ?_) | (with_reducible refine i_setf ?_) | (with_reducible refine i_augf ?_) | (with_reducible refine i_meth ?_) | (with_reducible refine i_cons ?_) | (with_reducible refine i_nil ?_)
  | (with_reducible refine i_call ?_) | (with_reducible refine i_cb ?_) | (with_reducible refine i_test ?_) | (with_reducible refine i_tB ?_) | (with_reducible refine i_bl ?_) | (with_reducible refine i_not ?_)
  | (with_reducible refine i_if ?_) | (with_reducible refine i_ifE ?_) | (with_reducible refine i_andV ?_) | (with_reducible refine i_orV ?_) | (with_reducible refine i_notV ?_) | (with_reducible refine i_and ?_) | (with_reducible refine i_or ?_)
  | (with_reducible refine i_rEqI ?_) | (with_reducible refine i_rNeI ?_) | (with_reducible refine i_un ?_) | (with_reducible refine i_rU ?_) | (with_reducible refine i_chain ?_) | (with_reducible refine i_tpar ?_) | (with_reducible refine i_par ?_) | (with_reducible refine i_tpar3 ?_) | (with_reducible refine i_par3 ?_)
  | ((with_reducible refine' i_aug ?k1 ?_); (case k1 => exact rfl)) | (with_reducible refine i_ipI ?_) | (with_reducible refine i_tup ?_) | (with_reducible refine i_lst ?_) | (with_reducible refine i_bm ?_) | (with_reducible refine i_bm0 ?_)
  | (with_reducible refine i_for ?_) | (with_reducible refine i_list ?_) | (with_reducible refine i_rng1 ?_) | (with_reducible refine i_keys ?_) | (with_reducible refine i_lc ?_) | (with_reducible refine i_yes ?_) | (with_reducible refine i_dput ?_)
  | (with_reducible refine i_dget ?_) | (with_reducible refine i_din ?_) | (with_reducible refine i_dnotin ?_) | (with_reducible refine i_dget1 ?_) | (with_reducible refine i_dget2 ?_) | (with_reducible refine i_dpop2 ?_)
  | (with_reducible refine q_max2 ?_) | (with_reducible refine q_min2 ?_) | (with_reducible refine q_notN ?_) | (with_reducible refine q_isN ?_) | (with_reducible refine i_gtup ?_) | (with_reducible refine i_gcons ?_) | (with_reducible refine i_gnil ?_) | (with_reducible refine i_make ?_) | (with_reducible refine i_dnewK ?_) | (with_reducible refine i_dnewT ?_)
  | (with_reducible refine q_int1 ?_) | (with_reducible refine q_int1b ?_) | (with_reducible refine i_sl ?_) | (with_reducible refine i_npart ?_) | (with_reducible refine i_part ?_) | (with_reducible refine i_pint ?_) | (with_reducible refine i_pcons ?_) | (with_reducible refine i_pnil ?_) | (with_reducible refine i_gsub ?_) | (with_reducible refine i_makeKw ?_)
  | (with_reducible refine i_rAdd ?_) | (with_reducible refine i_rSub ?_) | (with_reducible refine i_isN ?_))
local macro_rules | `(tactic| wtm_at "go") => `(tactic| repeat (wtm_at "go1"))

/-- pairs of ints, each a tuple -/
def PairsAt (H : Hp) (vs : List V) (qs : List (Int × Int)) : Prop := vs.length = qs.length ∧ ∀ (i : Nat) (v : V) (q : Int × Int), vs[i]? = some v → qs[i]? = some q → ∃ b, v = .ref b ∧ H b = some (.tup [.int q.1, .int q.2])
theorem PairsAt.nil {H : Hp} : PairsAt H [] [] := ⟨rfl, fun i v q h => by simp at h⟩
theorem PairsAt.keep {H H' : Hp} {vs : List V} {qs : List (Int × Int)} (x : PairsAt H vs qs) (t : TupKeep H H') : PairsAt H' vs qs := ⟨x.1, fun i v q h1 h2 => let ⟨b, e, h⟩ := x.2 i v q h1 h2; ⟨b, e, t _ _ h⟩⟩
theorem PairsAt.append {H : Hp} {vs ws : List V} {qs rs : List (Int × Int)} (x : PairsAt H vs qs) (y : PairsAt H ws rs) : PairsAt H (vs ++ ws) (qs ++ rs) := by
  refine ⟨by simp [x.1, y.1], fun i v q h1 h2 => ?_⟩
  by_cases hi : i < vs.length
  · rw [List.getElem?_append_left hi] at h1
    rw [List.getElem?_append_left (by rw [← x.1]; exact hi)] at h2
    exact x.2 i v q h1 h2
  · rw [List.getElem?_append_right (by omega)] at h1
    rw [List.getElem?_append_right (by rw [← x.1]; omega), ← x.1] at h2
    exact y.2 _ v q h1 h2
theorem PairsAt.one {H : Hp} {b : Addr} {q : Int × Int} (h : H b = some (.tup [.int q.1, .int q.2])) : PairsAt H [.ref b] [q] := ⟨rfl, fun i v r h1 h2 => by
  cases i with
  | zero => cases h1; cases h2; exact ⟨b, rfl, h⟩
  | succ i => simp at h1⟩
section
variable {K : PySem.W.Frag} {a a' : SA} {S : Sett} {M : Sto} {H H0 : Hp}
theorem StoreAt.other (h : StoreAt K a S M H) {D : Addr} {o u : HO} (nD : D ∉ a.dom) (e : H D = some o) (ho : ∀ xs, o ≠ .tup xs) : StoreAt K a S M (upd H D u) :=
  h.apart (fun b p eb hb => by rw [upd_ne (fun z : b = D => nD (by rw [← z]; exact hb))]; exact eb) fun b xs eb => by rw [upd_ne (fun z : b = D => by rw [z, e] at eb; exact ho xs (Option.some.inj eb))]; exact eb
theorem Mv.other (m : Mv a H0 a' H) {D : Addr} {u : HO} (n : H0 D = none) : Mv a H0 a' (upd H D u) :=
  ⟨fun b o e nb => by rw [upd_ne (ne_of_none e n)]; exact m.keep b o e nb, m.ext, fun b xs e => by rw [upd_ne (ne_of_none e n)]; exact m.tups b xs e, m.p, m.supp⟩
theorem tup_other {D : Addr} {o u : HO} (e : H D = some o) (ho : ∀ xs, o ≠ .tup xs) : TupKeep H (upd H D u) := fun b xs eb => by rw [upd_ne (fun z : b = D => by rw [z, e] at eb; exact ho xs (Option.some.inj eb))]; exact eb
theorem StoreAt.but {H' : Hp} (h : StoreAt K a S M H) {D : Addr} {o : HO} (nD : D ∉ a.dom) (e : H D = some o) (ho : ∀ xs, o ≠ .tup xs) (n : ∀ b, b ≠ D → H' b = H b) : StoreAt K a S M H' :=
  h.apart (fun b p eb hb => by rw [n b (fun z : b = D => nD (by rw [← z]; exact hb))]; exact eb) fun b xs eb => by rw [n b (fun z : b = D => by rw [z, e] at eb; exact ho xs (Option.some.inj eb))]; exact eb
theorem Mv.but {H' : Hp} (m : Mv a H0 a' H) {D : Addr} (f : H0 D = none) (n : ∀ b, b ≠ D → H' b = H b) : Mv a H0 a' H' :=
  ⟨fun b o e nb => by rw [n b (ne_of_none e f)]; exact m.keep b o e nb, m.ext, fun b xs e => by rw [n b (ne_of_none e f)]; exact m.tups b xs e, m.p, m.supp⟩
theorem tup_but {H' : Hp} {D : Addr} {o : HO} (e : H D = some o) (ho : ∀ xs, o ≠ .tup xs) (n : ∀ b, b ≠ D → H' b = H b) : TupKeep H H' := fun b xs eb => by rw [n b (fun z : b = D => by rw [z, e] at eb; exact ho xs (Option.some.inj eb))]; exact eb
theorem Mv.free (h : StoreAt K a S M H) (m : Mv a H0 a H) {D : Addr} (n : H D = none) : H0 D = none := by
  cases q : H0 D with
  | none => rfl
  | some o =>
    have := m.keep D o q (fun z => h.fresh n (by rw [SA.dom_eq]; exact List.mem_append_left _ z))
    rw [n] at this; cases this
theorem lst_ne {l : List V} : ∀ xs, HO.lst l ≠ .tup xs := fun _ z => by cases z
theorem dK_ne {l : List (Key × V)} : ∀ xs, HO.dK l ≠ .tup xs := fun _ z => by cases z
end
theorem take_same (M : Sto) (r : Role) : (M.take r).oldest = M.oldest ∧ (M.take r).top = M.top ∧ (M.take r).nodes = M.nodes ∧ (M.take r).heap = M.heap ∧ (M.take r).changed = M.changed ∧ (M.take r).done = M.done ∧ (M.take r).log = M.log ∧ (M.take r).waiting = M.waiting := by
  unfold Sto.take
  split <;> exact ⟨rfl, rfl, rfl, rfl, rfl, rfl, rfl, rfl⟩
theorem atI_snoc (l : List Int) (x : Int) : atI ((l ++ [x]).map V.int) (-1) = some (.int x) := by
  rw [List.map_append]
  exact atI_last _ _
set_option exponentiation.threshold 9000 in
theorem log2_of {x : Int} {b : Nat} (h0 : 0 ≤ x) (h : x ≤ ((2 ^ b : Nat) : Int)) (hb : b < 8000) : x.natAbs.log2 < 8001 := by
  have h1 : x.natAbs < 2 ^ 8001 := by
    have h2 : x.natAbs ≤ 2 ^ b := by omega
    have h3 : 2 ^ b < 2 ^ 8001 := Nat.pow_lt_pow_right (by decide) (by omega)
    omega
  exact Nat.lt_of_lt_of_le (PySem.Flt.log2_lt_of (by decide) h1) (Nat.le_refl _)
theorem width_ok {f : Int} (h2 : 2 ≤ f) (h8 : f ≤ 8) {i : Nat} (hi : i < 1010) : CMulW (f ^ i) f ∧ CDivW 0 (f ^ i) := by
  have h0 := pow_pos' h2 i
  have h1 := pow_le8 (by omega : 0 ≤ f) h8 i
  have h3 := log2_of (Int.le_of_lt h0) h1 (by omega)
  have h4 : f.natAbs.log2 < 8001 := log2_of (b := 3) (by omega) (by simpa using h8) (by omega)
  exact ⟨by show _ + _ < 1000000; omega, h0, by omega⟩
theorem divw {x : Int} {f : Int} (h2 : 2 ≤ f) (h8 : f ≤ 8) {i : Nat} (hi : i < 1010) : CDivW x (f ^ i) := (width_ok h2 h8 hi).2
theorem divw1 {x : Int} {f : Int} (h2 : 2 ≤ f) (h8 : f ≤ 8) : CDivW x f := by
  have := divw (x := x) h2 h8 (i := 1) (by decide)
  rwa [show f ^ 1 = f by simp [Int.pow_succ]] at this
end K90


namespace K90
open PySem PySem.Spec PyProof.Rows L2 KR
local macro_rules | `(tactic| wtm_at "go1") => `(tactic| first
  | (with_reducible refine i_seq ?_) | ((with_reducible refine' i_var ?k1 ?_); (case k1 => exact rfl)) | (with_reducible refine i_c ?_) | (with_reducible refine i_asg ?_) | (with_reducible refine i_name ?_)
  | (with_reducible refine i_ret ?_) | (with_reducible refine i_retN ?_) | (with_reducible refine i_drop ?_) | (with_reducible refine i_next ?_) | (with_reducible refine i_op ?_) | (with_reducible refine i_rI0 ?_)
  | (with_reducible refine i_fld ?_) | (with_reducible refine i_setf ?_) | (with_reducible refine i_augf ?_) | (with_reducible refine i_meth ?_) | (with_reducible refine i_cons ?_) | (with_reducible refine i_nil ?_)
  | (with_reducible refine i_call ?_) | (with_reducible refine i_cb ?_) | (with_reducible refine i_test ?_) | (with_reducible refine i_tB ?_) | (with_reducible refine i_bl ?_) | (with_reducible refine i_not ?_)
  | (with_reducible refine i_if ?_) | (with_reducible refine i_ifE ?_) | (with_reducible refine i_andV ?_) | (with_reducible refine i_orV ?_) | (with_reducible refine i_notV ?_) | (with_reducible refine i_and ?_) | (with_reducible refine i_or ?_)
  | (with_reducible refine i_rEqI ?_) | (with_reducible refine i_rNeI ?_) | (with_reducible refine i_un ?_) | (with_reducible refine i_rU ?_) | (with_reducible refine i_chain ?_) | (with_reducible refine i_tpar ?_) | (with_reducible refine i_par ?_) | (with_reducible refine i_tpar3 ?_) | (with_reducible refine i_par3 ?_)
  | ((with_reducible refine' i_aug ?k1 ?_); (case k1 => exact rfl)) | (with_reducible refine i_ipI ?_) | (with_reducible refine i_tup ?_) | (with_reducible refine i_lst ?_) | (with_reducible refine i_bm ?_) | (with_reducible refine i_bm0 ?_)
  | (with_reducible refine i_for ?_) | (with_reducible refine i_list ?_) | (with_reducible refine i_rng1 ?_) | (with_reducible refine i_keys ?_) | (with_reducible refine i_lc ?_) | (with_reducible refine i_yes ?_) | (with_reducible refine i_dput ?_)
  | (with_reducible refine i_dget ?_) | (with_reducible refine i_din ?_) | (with_reducible refine i_dnotin ?_) | (with_reducible refine i_dget1 ?_) | (with_reducible refine i_dget2 ?_) | (with_reducible refine i_dpop2 ?_)
  | (with_reducible refine q_max2 ?_) | (with_reducible refine q_min2 ?_) | (with_reducible refine q_notN ?_) | (with_reducible refine q_isN ?_) | (with_reducible refine i_gtup ?_) | (with_reducible refine i_gcons ?_) | (with_reducible refine i_gnil ?_) | (with_reducible refine i_make ?_) | (with_reducible refine i_dnewK ?_) | (with_reducible refine i_dnewT ?_)
  | (with_reducible refine q_int1 ?_) | (with_reducible refine q_int1b ?_) | (with_reducible refine i_sl ?_) | (with_reducible refine i_npart ?_) | (with_reducible refine i_part ?_) | (with_reducible refine i_pint ?_) | (with_reducible refine i_pcons ?_) | (with_reducible refine i_pnil ?_) | (with_reducible refine i_gsub ?_) | (with_reducible refine i_makeKw ?_)
  | (with_reducible refine i_rAdd ?_) | (with_reducible refine i_rSub ?_) | (with_reducible refine i_isN ?_))
local macro_rules | `(tactic| wtm_at "go") => `(tactic| repeat (wtm_at "go1"))

theorem wanted_le {M : Sto} {num w i : Int} (hw : 0 < w) (h : M.oldest ≤ num) : (wantedAt M num w i).Pairwise (· ≤ ·) ∧ (wantedAt M num w i).length ≤ 2 := by
  unfold wantedAt
  split
  · have := Int.ediv_le_ediv (c := w) hw h
    simp [this]
  · simp
theorem bp2_same (M : Sto) : M.bp2.oldest = M.oldest ∧ M.bp2.top = M.top ∧ M.bp2.nodes = M.nodes ∧ M.bp2.done = M.done := by
  obtain ⟨h1, h2, h3, h4, h5, h6, h7, h8⟩ := take_same M (.heap (M.newest + 1))
  exact ⟨h1, h2, h3, h6⟩
theorem bp2_sz {M : Sto} {n : Nat} (h : M.Sz n) : M.bp2.Sz (n + 1) := by
  obtain ⟨h1, h2, h3, h4, h5, h6, h7, h8⟩ := take_same M (.heap (M.newest + 1))
  obtain ⟨a, b, c, d, e, f, g⟩ := h.take (.heap (M.newest + 1))
  have hh := h.heap
  have hc := h.changed
  refine ⟨?_, b, c, d, e, ?_, g⟩
  · show ((M.take (.heap (M.newest + 1))).heap ++ [M.takeP]).length ≤ n + 1
    rw [h4]; simp; omega
  · show (putI (M.take (.heap (M.newest + 1))).changed M.takeP).length ≤ n + 1
    rw [h5]
    have := putI_len M.changed M.takeP
    omega
theorem adds_take {M : Sto} {l : List (Int × Int)} {i : Nat} {q : Int × Int} (h : l[i]? = some q) : ((l.take (i + 1)).foldl Sto.addNode M) = ((l.take i).foldl Sto.addNode M).addNode q := by
  rw [List.take_succ, h, List.foldl_append]
  rfl
theorem changes_take {M : Sto} {f : Int} {l : List (Int × Int)} {i : Nat} {q : Int × Int} (h : l[i]? = some q) : M.changes f (l.take (i + 1)) = (M.changes f (l.take i)).change (q.1 + 1) (q.2 / f) := by
  unfold Sto.changes
  rw [List.take_succ, h, List.foldl_append]
  rfl
theorem sz_ev {M : Sto} {n m : Nat} (h : M.Sz n) (hm : n < m) : M.ev.length < m := by have := h.ev; omega
section
variable {P : Program} {w : World} {K : PySem.W.Frag} {mg : Str → Option Value} {base : Heap}
def sp_Store_begin_page (K : PySem.W.Frag) : Sp := fun vs H Q _ => ∃ (a : SA) (S : Sett) (M : Sto) (n : Nat), vs = [.ref a.p] ∧ StoreAt K a S M H ∧ M.Sz n ∧ n + 20000 ≤ sizeLine ∧ 0 ≤ M.oldest ∧ M.newest.toNat + 2 ≤ 2 ^ 1000 ∧ ∀ H', StoreAt K a S (M.beginPage S.fanout) H' → Mv a H a H' → Q .non H'
theorem O_Store_begin_page (T : Tx K mg) : MF P w K mg base CX0 (He.ga K "Store") "begin_page" ["self"] 3 (sp_Store_begin_page K) := by
  have O_root_level := O_root_level (P := P) (w := w) (base := base) T
  have O_Store_newest := O_Store_newest (P := P) (w := w) (base := base) T
  have O_Store_take := O_Store_take (P := P) (w := w) (base := base) T
  have O_Store_change := O_Store_change (P := P) (w := w) (base := base) T
  obtain ⟨fd, F⟩ := T.F_Store_begin_page
  refine ⟨_, fd, ?_, T.m_Store_begin_page, F.bindsN fun _ _ _ _ _ _ us hl => match us, hl with | [_], _ => rfl⟩
  refine F.ok sc_Core_begin_page (fun vs H Q E h => ?_) (fun cdv A outer s H vs Q E hr h => ?_)
  · first | (obtain ⟨rfl, _⟩ := h; rfl) | (obtain ⟨_, rfl, _⟩ := h; rfl) | (obtain ⟨_, _, rfl, _⟩ := h; rfl) | (obtain ⟨_, _, _, rfl, _⟩ := h; rfl) | (obtain ⟨_, _, _, _, rfl, _⟩ := h; rfl) | (obtain ⟨_, _, _, _, _, rfl, _⟩ := h; rfl) | (obtain ⟨_, _, _, _, _, _, rfl, _⟩ := h; rfl) | (obtain ⟨_, _, _, _, _, _, _, rfl, _⟩ := h; rfl) | (obtain ⟨_, _, _, _, _, _, _, _, rfl, _⟩ := h; rfl) | (obtain ⟨_, _, _, _, _, _, _, _, _, rfl, _⟩ := h; rfl) | (obtain ⟨_, _, _, _, _, _, _, _, _, _, rfl, _⟩ := h; rfl) | (obtain ⟨_, _, _, _, _, _, _, _, _, _, _, rfl, _⟩ := h; rfl) | (obtain ⟨_, _, _, _, _, _, _, _, _, _, _, _, rfl, _⟩ := h; rfl) | (obtain ⟨_, _, _, _, _, _, _, _, _, _, _, _, _, rfl, _⟩ := h; rfl) | (obtain ⟨_, _, _, _, _, _, _, _, _, _, _, _, _, _, rfl, _⟩ := h; rfl) | (obtain ⟨_, _, _, _, _, _, _, _, _, _, _, _, _, _, _, rfl, _⟩ := h; rfl) | (obtain ⟨_, _, _, _, _, _, _, _, _, _, _, _, _, _, _, _, rfl, _⟩ := h; rfl) | (obtain ⟨_, _, _, _, _, _, _, _, _, _, _, _, _, _, _, _, _, rfl, _⟩ := h; rfl) | (obtain ⟨_, _, _, _, _, _, _, _, _, _, _, _, _, _, _, _, _, _, rfl, _⟩ := h; rfl) | (obtain ⟨_, _, _, _, _, _, _, _, _, _, _, _, _, _, _, _, _, _, _, rfl, _⟩ := h; rfl) | (obtain ⟨_, _, _, _, _, _, _, _, _, _, _, _, _, _, _, _, _, _, _, _, rfl, _⟩ := h; rfl) | (obtain ⟨_, _, _, _, _, _, _, _, _, _, _, _, _, _, _, _, _, _, _, _, _, rfl, _⟩ := h; rfl)
  · obtain ⟨a, S, M, n, rfl, hs, hz, hn, h0, hw, k⟩ := h
    have hS := hs.set.ok
    have f2 := hS.f2
    have f8 := hS.f8
    obtain ⟨t1, t2, t3, t4, t5, t6, t7, t8⟩ := take_same M (.heap (M.newest + 1))
    have hnew : M.oldest ≤ M.newest + 1 := by unfold Sto.newest; omega
    refine ⟨_, PSs.nox (pss_cons (ps_set (i := 1) sc_Core_begin_page.nd rfl (Or.inl rfl) (pe_op op_add (pm0 O_Store_newest T.c_Store hr pass0 (pv 0)) pe_int))
  (pss_cons (ps_expr (pe_bm PySem.F.plainAttrs_list PySem.F.slot_list_append PySem.F.type_list_append mt_append (pe_fld (pv 0) rfl) (pa_cons (pm O_Store_take T.c_Store hr pass0 (pv 0) (pa_cons (pe_tup (pa_cons pe_str (pa_cons (pv 1) pa_nil))) pa_nil)) pa_nil)))
  (pss_cons (ps_dput (hu_of hr) (pe_fld (pv 0) rfl) (pe_ix ix_list (pe_fld (pv 0) rfl) (pe_un un_neg pe_int) (fun _ _ => rfl)) pe_bl rfl)
  (pss_cons (ps_set (i := 2) sc_Core_begin_page.nd rfl (Or.inl rfl) (pg O_root_level hr pass0 (pa_cons (pe_fld (pv 0) rfl) (pa_cons (pv 1) (pa_cons (pe_fld (pe_fld (pv 0) rfl) rfl) pa_nil)))))
  (pss_cons (ps_set (i := 3) sc_Core_begin_page.nd rfl (Or.inl rfl) pe_int)
  (pss_cons (ps_set (i := 4) sc_Core_begin_page.nd rfl (Or.inl rfl) (pe_lst pa_nil))
  (pss_cons (ps_for PassesOwn.never rfl (pi_range1 rfl T.f_range (pa_cons (pe_op op_add (pv 2) pe_int) pa_nil)) (pg_name (i := 5) sc_Core_begin_page.nd rfl (Or.inr rfl))
  (pss_cons (ps_aug (i := 3) sc_Core_begin_page.nd rfl (Or.inl rfl) (pe_fld (pe_fld (pv 0) rfl) rfl) ip_mulW)
  (pss_cons (ps_set (i := 6) sc_Core_begin_page.nd rfl (Or.inl rfl) (pe_disp (pps_cons (pe_op op_fdivW (pv 1) (pv 3)) pe_bl pps_nil) (by rfl) (by rfl) (fun z => by cases z) (by decide)))
  (pss_cons (ps_if (pt_cmpR op_gt (pv 5) (pe_fld (pv 0) rfl) (nomark _))
  (pss_one (ps_dput (hu_of hr) (pv 6) (pe_op op_fdivW (pe_fld (pv 0) rfl) (pv 3)) pe_bl rfl))
  pss_nil)
  (pss_one (ps_expr (pe_bm PySem.F.plainAttrs_list PySem.F.slot_list_extend PySem.F.type_list_extend mt_extend (pv 4) (pa_cons (pe_lc (own := [("one", 7)]) (g := gName 7) (tt := tB (tDNotIn (tTup (tCons (tVar 5) (tCons (tVar 7) tNil))) (tFld K (tVar 0) "node_places"))) rfl sc_Core_begin_page.nd (pi_list (pe_callB (call_sortedDict rfl) (by rfl) T.f_sorted (by decide +kernel) (pa_cons (pv 6) pa_nil))) (blkOk_by (own := [("one", 7)]) (N := ["self", "number", "level", "width", "begun", "at", "wanted", "one"]) (sc := defScope s_Core_begin_page) (by decide +kernel)) (fun _ _ _ _ _ => by exact (pg_name (i := 7) sc_Core_begin_page.nd rfl (Or.inl rfl))) (fun _ _ _ _ _ => by exact (pts_one (pt_cmp (pc_dnotin (hu_of hr) (pe_tup (pa_cons (pv 5) (pa_cons (pv 7) pa_nil))) (pe_fld (pv 0) rfl))))) (fun _ _ _ _ _ => by exact (pe_tup (pa_cons (pv 5) (pa_cons (pv 7) pa_nil))))) pa_nil))))))))
  (pss_cons (ps_fld (pv 0) (pv 2) rfl)
  (pss_cons (ps_for PassesOwn.never rfl (pi_list (pv 4)) (pg_tup rfl (pgs_cons (pg_name (i := 5) sc_Core_begin_page.nd rfl (Or.inr rfl)) (pgs_cons (pg_name (i := 7) sc_Core_begin_page.nd rfl (Or.inl rfl)) pgs_nil)))
  (pss_cons (ps_dput (hu_of hr) (pe_fld (pv 0) rfl) (pe_tup (pa_cons (pv 5) (pa_cons (pv 7) pa_nil))) (pm O_Store_take T.c_Store hr pass0 (pv 0) (pa_cons (pe_tup (pa_cons pe_str (pa_cons (pv 5) (pa_cons (pv 7) pa_nil)))) pa_nil)) rfl)
  (pss_one (ps_expr (pm O_Store_change T.c_Store hr pass0 (pv 0) (pa_cons (pv 5) (pa_cons (pv 7) pa_nil)))))))
  (pss_cons (ps_expr (pm O_Store_change T.c_Store hr pass0 (pv 0) (pa_cons pe_int (pa_cons (pe_op op_fdivW (pv 1) (pe_fld (pe_fld (pv 0) rfl) rfl)) pa_nil))))
  (pss_one (ps_for PassesOwn.never rfl (pi_list (pv 4)) (pg_tup rfl (pgs_cons (pg_name (i := 5) sc_Core_begin_page.nd rfl (Or.inr rfl)) (pgs_cons (pg_name (i := 7) sc_Core_begin_page.nd rfl (Or.inl rfl)) pgs_nil)))
  (pss_one (ps_expr (pm O_Store_change T.c_Store hr pass0 (pv 0) (pa_cons (pe_op op_add (pv 5) pe_int) (pa_cons (pe_op op_fdivW (pv 7) (pe_fld (pe_fld (pv 0) rfl) rfl)) pa_nil))))))))))))))))), ?_⟩
    wtm_at "go"
    refine i_methK hs.ob stF_no_newest ?_
    wtm_at "go"
    refine ⟨a, S, M, rfl, hs, ?_⟩
    wtm_at "go"
    refine i_fldK hs.ob T.c_Store T.n_Store_heap stF_heap ?_
    refine i_bmL hs.heap ?_
    wtm_at "go"
    refine i_methK hs.ob stF_no_take ?_
    wtm_at "go"
    refine i_tupK (of_decide_eq_true (by kernel_rfl)) fun b1 H1 nb1 hb1 s1 => ?_
    wtm_at "go"
    refine ⟨a, S, M, _, .heap (M.newest + 1), rfl, hs.same s1, ⟨b1, rfl, hb1⟩, sz_ev hz (by omega), fun H2 h2 m2 => ?_⟩
    wtm_at "go"
    refine h2.app_heap (by rw [t4]; have := hz.heap; omega) fun H3 h3 m3 => ?_
    wtm_at "go"
    refine i_fldK h3.ob T.c_Store T.n_Store_changed stF_changed ?_
    wtm_at "go"
    refine i_fldK h3.ob T.c_Store T.n_Store_heap stF_heap ?_
    wtm_at "go"
    refine i_ixL h3.heap (atI_snoc _ _) ?_
    refine h3.put_changed (by show (M.take _).changed.length < _; rw [t5]; have := hz.changed; omega) fun H4 h4' m4 => ?_
    have h4 : StoreAt K a S M.bp2 H4 := h4'
    have mv4 : Mv a H a H4 := (((Mv.same s1).trans m2).trans m3).trans m4
    obtain ⟨q1, q2, q3, q4⟩ := bp2_same M
    have hz2 := bp2_sz hz
    clear h4' h3 m4 m3 h2 m2 t1 t2 t3 t4 t5 t6 t7 t8 hb1 s1
    wtm_at "go"
    refine i_fldK h4.ob T.c_Store T.n_Store_oldest stF_oldest ?_
    wtm_at "go"
    refine i_fldK h4.ob T.c_Store T.n_Store_settings stF_settings ?_
    refine h4.set.rd T.c_Settings T.n_Settings_fanout setF_fanout ?_
    wtm_at "go"
    rw [q1]
    refine ⟨M.oldest, M.newest + 1, S.fanout, rfl, h0, hnew, f2, f8, ?_⟩
    have hl := rootLevel_lt (b := 1000) f2 h0 hnew (by omega)
    rw [show rootLevel M.oldest (M.newest + 1) S.fanout = M.bpLvl S.fanout from rfl]
    have hl0 : 0 ≤ M.bpLvl S.fanout := hl.1
    have hl1 : M.bpLvl S.fanout ≤ 1000 := hl.2
    wtm_at "go"
    refine i_lstK (of_decide_eq_true (by kernel_rfl)) fun lb H5 nlb hlb s5 => ?_
    have nlbd := h4.fresh nlb
    wtm_at "go"
    refine i_rngK (by omega) (by omega) ?_
    refine i_forK walk_range (fun i σ H' => StoreAt K a S M.bp2 H' ∧ Mv a H4 a H' ∧ (∃ vs, H' lb = some (.lst vs) ∧ PairsAt H' vs (begun M.bp2 (M.newest + 1) S.fanout i)) ∧
      ∃ v5 v6 v7, σ = [some (.ref a.p), some (.int (M.newest + 1)), some (.int (M.bpLvl S.fanout)), some (.int (S.fanout ^ i)), some (.ref lb), v5, v6, v7]) ?_ (fun _ _ _ _ _ => True.intro) ?_ ?_
    · exact ⟨h4.same s5, Mv.same s5, ⟨[], hlb, PairsAt.nil⟩, none, none, none, by rw [show S.fanout ^ 0 = 1 from Int.pow_zero _]; rfl⟩
    · rintro i x σ H6 H6' hi ⟨h6, m6, ⟨vs, hv, hp⟩, v5, v6, v7, rfl⟩ ⟨e1, e2⟩
      have e3 : x = V.int (i : Int) := by
        rw [e2]
        show V.int (0 + (i : Int)) = _
        rw [Int.zero_add]
      clear e2
      subst e1 e3
      have hi2 : i < 1010 := by omega
      have hp0 := pow_pos' f2 (i + 1)
      wtm_at "go"
      refine i_fldK h6.ob T.c_Store T.n_Store_settings stF_settings ?_
      refine h6.set.rd T.c_Settings T.n_Settings_fanout setF_fanout ?_
      refine i_rI (width_ok f2 f8 hi2).1 ?_
      rw [← Int.pow_succ]
      wtm_at "go"
      intro d nd
      have hd : (upd H6' d (.dK [])) d = some (.dK []) := upd_same
      have s7 : Same H6' (upd H6' d (.dK [])) := Same.upd nd
      generalize upd H6' d (HO.dK []) = H7 at hd s7 ⊢
      show tOp (rI CDivW fun i j => .int (i / j)) (tVar 1) (tVar 3) _ H7 _
      wtm_at "go"
      refine i_rI (divw f2 f8 (by omega)) ?_
      wtm_at "go"
      refine ⟨hd, [(.inl ((M.newest + 1) / S.fanout ^ (i + 1)), .bl true)], rfl, of_decide_eq_true (by kernel_rfl), ?_⟩
      have e8 : (upd H7 d (.dK (mergeK [] [(.inl ((M.newest + 1) / S.fanout ^ (i + 1)), .bl true)]))) d = some (.dK (chV [(M.newest + 1) / S.fanout ^ (i + 1)])) := upd_same
      have h7 := h6.same s7
      have ndd : d ∉ a.dom := h6.fresh nd
      have nd4 : H4 d = none := by
        cases q : H4 d with
        | none => rfl
        | some o =>
          have := m6.keep d o q (fun z => ndd (by rw [SA.dom_eq]; exact List.mem_append_left _ z))
          rw [nd] at this; cases this
      have ndlb : d ≠ lb := fun z => by rw [z, hv] at nd; cases nd
      have h8 := h7.other (u := .dK (mergeK [] [(.inl ((M.newest + 1) / S.fanout ^ (i + 1)), .bl true)])) ndd hd dK_ne
      have m8 := (m6.trans (Mv.same s7)).other (u := .dK (mergeK [] [(.inl ((M.newest + 1) / S.fanout ^ (i + 1)), .bl true)])) nd4
      have t8 : TupKeep H6' (upd H7 d (.dK (mergeK [] [(.inl ((M.newest + 1) / S.fanout ^ (i + 1)), .bl true)]))) := (TupKeep.of_same s7).trans (tup_other hd dK_ne)
      have hv8 : (upd H7 d (.dK (mergeK [] [(.inl ((M.newest + 1) / S.fanout ^ (i + 1)), .bl true)]))) lb = some (.lst vs) := (upd_ne ndlb.symm).trans (s7 _ _ hv)
      generalize upd H7 d (HO.dK (mergeK [] [(.inl ((M.newest + 1) / S.fanout ^ (i + 1)), .bl true)])) = H8 at e8 h8 m8 t8 hv8 ⊢
      wtm_at "go"
      refine i_fldK h8.ob T.c_Store T.n_Store_top_level stF_top_level ?_
      wtm_at "go"
      have hpe : PairsAt H8 vs (begun M.bp2 (M.newest + 1) S.fanout i) := hp.keep t8
      by_cases hc : (i : Int) > M.bp2.top
      · rw [decide_eq_true (show M.bp2.top < (i : Int) from hc)]
        refine iteT ?_
        wtm_at "go"
        refine i_fldK h8.ob T.c_Store T.n_Store_oldest stF_oldest ?_
        wtm_at "go"
        refine i_rI (divw f2 f8 (by omega)) ?_
        refine i_dputK (ky := .inl (M.bp2.oldest / S.fanout ^ (i + 1))) e8 (of_decide_eq_true (by kernel_rfl)) fun H9 e9' n9 => ?_
        have h9 := h8.but ndd e8 dK_ne n9
        have m9 := m8.but nd4 n9
        have hv9 := (n9 lb ndlb.symm).trans hv8
        have hp9 := hpe.keep (tup_but e8 dK_ne n9)
        have e9 := e9'
        rw [putK_chV] at e9
        generalize hks : putI [(M.newest + 1) / S.fanout ^ (i + 1)] (M.bp2.oldest / S.fanout ^ (i + 1)) = ks9 at e9
        have hperm : (wantedAt M.bp2 (M.newest + 1) (S.fanout ^ (i + 1)) i).Perm ks9 := by
          rw [← hks]
          unfold wantedAt putI
          by_cases hq : M.bp2.oldest / S.fanout ^ (i + 1) = (M.newest + 1) / S.fanout ^ (i + 1)
          · simp [hq]
          · rw [if_pos ⟨hc, hq⟩, if_neg (by simpa using hq)]
            exact List.Perm.swap _ _ _
        wtm_at "go"
        refine i_bmL hv9 ?_
        wtm_at "go"
        refine q_sortedD e9 (ks := ks9) (by simp [chV]) fun zs p1 p2 => ?_
        obtain rfl : zs = wantedAt M.bp2 (M.newest + 1) (S.fanout ^ (i + 1)) i := sorted_one (p1.trans hperm.symm) p2 (wanted_le hp0 (by rw [q1]; exact hnew)).1
        intro zl H10 nzl hzl s10
        refine i_listK (SqL.of hzl) ?_
        refine i_lcK (walk_list (xs := (wantedAt M.bp2 (M.newest + 1) (S.fanout ^ (i + 1)) i).map V.int)) (fun D j H' => StoreAt K a S M.bp2 H' ∧ Mv a H4 a H' ∧ H' lb = some (.lst vs) ∧ PairsAt H' vs (begun M.bp2 (M.newest + 1) S.fanout i) ∧ H' zl = some (.lst ((wantedAt M.bp2 (M.newest + 1) (S.fanout ^ (i + 1)) i).map V.int)) ∧
          (∃ ws, H' D = some (.lst ws) ∧ PairsAt H' ws ((((wantedAt M.bp2 (M.newest + 1) (S.fanout ^ (i + 1)) i).take j).filter fun n => (lookN M.bp2.nodes ((i : Int), n)).isNone).map fun n => ((i : Int), n))) ∧ D ≠ lb ∧ D ≠ zl ∧ D ∉ a.dom ∧ H4 D = none) ?_ ?_ ?_ ?_
        · intro D H11 nD hD sD
          have h10 := h9.same s10
          refine ⟨h10.same sD, (m9.trans (Mv.same s10)).trans (Mv.same sD), sD _ _ (s10 _ _ hv9), (hp9.keep (TupKeep.of_same s10)).keep (TupKeep.of_same sD), sD _ _ hzl, ⟨[], hD, PairsAt.nil⟩, ?_, ?_, h10.fresh nD, Mv.free h10 (m9.trans (Mv.same s10)) nD⟩
          · exact (ne_of_none (s10 _ _ hv9) nD).symm
          · exact (ne_of_none hzl nD).symm
        · rintro D j H11 _ ⟨_, _, _, _, e, _⟩
          exact SqL.of e
        · rintro D j x H11 H11' hj ⟨h11, m11, hv11, hp11, hz11, ⟨ws, hD, hw⟩, d1, d2, d3, d4⟩ ⟨e1, hx⟩
          subst e1
          rw [List.getElem?_map] at hx
          obtain ⟨z, hzz, rfl⟩ := Option.map_eq_some_iff.mp hx
          wtm_at "go"
          refine ⟨rfl, ?_⟩
          wtm_at "go"
          refine i_tupK (of_decide_eq_true (by kernel_rfl)) fun b12 H12 nb12 hb12 s12 => ?_
          have h12 := h11.same s12
          wtm_at "go"
          refine i_fldK h12.ob T.c_Store T.n_Store_node_places stF_node_places ?_
          refine ⟨a.dn, _, rfl, h12.get_nodes (q := ((i : Int), z)) hb12, ?_⟩
          wtm_at "go"
          cases hlk : lookN M.bp2.nodes ((i : Int), z) with
          | none =>
            refine iteT ?_
            wtm_at "go"
            refine i_tupK (of_decide_eq_true (by kernel_rfl)) fun b13 H13 nb13 hb13 s13 => ?_
            have hD13 := s13 _ _ (s12 _ _ hD)
            have t13 := (TupKeep.of_same s12).trans (TupKeep.of_same s13)
            have hwl : ws.length ≤ 2 := by
              rw [hw.1, List.length_map]
              refine Nat.le_trans (List.length_filter_le _ _) (Nat.le_trans ?_ (wanted_le (M := M.bp2) (num := M.newest + 1) (i := (i : Int)) hp0 (by rw [q1]; exact hnew)).2)
              rw [List.length_take]; omega
            refine ⟨ws, hD13, by simp [sizeLine]; omega, (h12.same s13).other d3 hD13 lst_ne, ((m11.trans (Mv.same s12)).trans (Mv.same s13)).other d4, (upd_ne d1.symm).trans (s13 _ _ (s12 _ _ hv11)), (hp11.keep t13).keep (tup_other hD13 lst_ne), (upd_ne d2.symm).trans (s13 _ _ (s12 _ _ hz11)), ⟨_, upd_same, ?_⟩, d1, d2, d3, d4⟩
            rw [List.take_succ, hzz, List.filter_append, List.map_append]
            have e14 : (([z] : List Int).filter fun n => (lookN M.bp2.nodes ((i : Int), n)).isNone) = [z] := by simp [hlk]
            show PairsAt _ _ (_ ++ List.map _ (([z] : List Int).filter fun n => (lookN M.bp2.nodes ((i : Int), n)).isNone))
            rw [e14]
            exact ((hw.keep t13).append (PairsAt.one (q := ((i : Int), z)) hb13)).keep (tup_other hD13 lst_ne)
          | some pg =>
            refine iteF ?_
            refine ⟨h12, m11.trans (Mv.same s12), s12 _ _ hv11, hp11.keep (TupKeep.of_same s12), s12 _ _ hz11, ⟨ws, s12 _ _ hD, ?_⟩, d1, d2, d3, d4⟩
            rw [List.take_succ, hzz, List.filter_append, List.map_append]
            have e14 : (([z] : List Int).filter fun n => (lookN M.bp2.nodes ((i : Int), n)).isNone) = [] := by simp [hlk]
            show PairsAt _ _ (_ ++ List.map _ (([z] : List Int).filter fun n => (lookN M.bp2.nodes ((i : Int), n)).isNone))
            rw [e14, List.map_nil, List.append_nil]
            exact hw.keep (TupKeep.of_same s12)
        · rintro D H11 ⟨h11, m11, hv11, hp11, hz11, ⟨ws, hD, hw⟩, d1, d2, d3, d4⟩
          rw [List.length_map, List.take_length] at hw
          have hbl := begun_len M.bp2 (M.newest + 1) S.fanout i
          have hvl := hp11.1
          have hwl : ws.length ≤ 2 := by
            rw [hw.1, List.length_map]
            exact Nat.le_trans (List.length_filter_le _ _) (wanted_le (M := M.bp2) (num := M.newest + 1) (i := (i : Int)) hp0 (by rw [q1]; exact hnew)).2
          refine ⟨lb, D, vs, ws, rfl, rfl, hv11, hD, by simp only [sizeLine]; omega, ?_⟩
          refine ⟨h11.other nlbd hv11 lst_ne, m11.other nlb, ⟨_, upd_same, ?_⟩, _, _, _, rfl⟩
          rw [begun_succ]
          exact (hp11.append hw).keep (tup_other hv11 lst_ne)
      · rw [decide_eq_false (show ¬ M.bp2.top < (i : Int) from hc)]
        refine iteF ?_
        have h9 := h8
        have m9 := m8
        have hv9 := hv8
        have hp9 := hpe
        have e9 := e8
        generalize hks : [(M.newest + 1) / S.fanout ^ (i + 1)] = ks9 at e9
        have hperm : (wantedAt M.bp2 (M.newest + 1) (S.fanout ^ (i + 1)) i).Perm ks9 := by
          rw [← hks]
          unfold wantedAt
          rw [if_neg fun z => hc z.1]
        wtm_at "go"
        refine i_bmL hv9 ?_
        wtm_at "go"
        refine q_sortedD e9 (ks := ks9) (by simp [chV]) fun zs p1 p2 => ?_
        obtain rfl : zs = wantedAt M.bp2 (M.newest + 1) (S.fanout ^ (i + 1)) i := sorted_one (p1.trans hperm.symm) p2 (wanted_le hp0 (by rw [q1]; exact hnew)).1
        intro zl H10 nzl hzl s10
        refine i_listK (SqL.of hzl) ?_
        refine i_lcK (walk_list (xs := (wantedAt M.bp2 (M.newest + 1) (S.fanout ^ (i + 1)) i).map V.int)) (fun D j H' => StoreAt K a S M.bp2 H' ∧ Mv a H4 a H' ∧ H' lb = some (.lst vs) ∧ PairsAt H' vs (begun M.bp2 (M.newest + 1) S.fanout i) ∧ H' zl = some (.lst ((wantedAt M.bp2 (M.newest + 1) (S.fanout ^ (i + 1)) i).map V.int)) ∧
          (∃ ws, H' D = some (.lst ws) ∧ PairsAt H' ws ((((wantedAt M.bp2 (M.newest + 1) (S.fanout ^ (i + 1)) i).take j).filter fun n => (lookN M.bp2.nodes ((i : Int), n)).isNone).map fun n => ((i : Int), n))) ∧ D ≠ lb ∧ D ≠ zl ∧ D ∉ a.dom ∧ H4 D = none) ?_ ?_ ?_ ?_
        · intro D H11 nD hD sD
          have h10 := h9.same s10
          refine ⟨h10.same sD, (m9.trans (Mv.same s10)).trans (Mv.same sD), sD _ _ (s10 _ _ hv9), (hp9.keep (TupKeep.of_same s10)).keep (TupKeep.of_same sD), sD _ _ hzl, ⟨[], hD, PairsAt.nil⟩, ?_, ?_, h10.fresh nD, Mv.free h10 (m9.trans (Mv.same s10)) nD⟩
          · exact (ne_of_none (s10 _ _ hv9) nD).symm
          · exact (ne_of_none hzl nD).symm
        · rintro D j H11 _ ⟨_, _, _, _, e, _⟩
          exact SqL.of e
        · rintro D j x H11 H11' hj ⟨h11, m11, hv11, hp11, hz11, ⟨ws, hD, hw⟩, d1, d2, d3, d4⟩ ⟨e1, hx⟩
          subst e1
          rw [List.getElem?_map] at hx
          obtain ⟨z, hzz, rfl⟩ := Option.map_eq_some_iff.mp hx
          wtm_at "go"
          refine ⟨rfl, ?_⟩
          wtm_at "go"
          refine i_tupK (of_decide_eq_true (by kernel_rfl)) fun b12 H12 nb12 hb12 s12 => ?_
          have h12 := h11.same s12
          wtm_at "go"
          refine i_fldK h12.ob T.c_Store T.n_Store_node_places stF_node_places ?_
          refine ⟨a.dn, _, rfl, h12.get_nodes (q := ((i : Int), z)) hb12, ?_⟩
          wtm_at "go"
          cases hlk : lookN M.bp2.nodes ((i : Int), z) with
          | none =>
            refine iteT ?_
            wtm_at "go"
            refine i_tupK (of_decide_eq_true (by kernel_rfl)) fun b13 H13 nb13 hb13 s13 => ?_
            have hD13 := s13 _ _ (s12 _ _ hD)
            have t13 := (TupKeep.of_same s12).trans (TupKeep.of_same s13)
            have hwl : ws.length ≤ 2 := by
              rw [hw.1, List.length_map]
              refine Nat.le_trans (List.length_filter_le _ _) (Nat.le_trans ?_ (wanted_le (M := M.bp2) (num := M.newest + 1) (i := (i : Int)) hp0 (by rw [q1]; exact hnew)).2)
              rw [List.length_take]; omega
            refine ⟨ws, hD13, by simp [sizeLine]; omega, (h12.same s13).other d3 hD13 lst_ne, ((m11.trans (Mv.same s12)).trans (Mv.same s13)).other d4, (upd_ne d1.symm).trans (s13 _ _ (s12 _ _ hv11)), (hp11.keep t13).keep (tup_other hD13 lst_ne), (upd_ne d2.symm).trans (s13 _ _ (s12 _ _ hz11)), ⟨_, upd_same, ?_⟩, d1, d2, d3, d4⟩
            rw [List.take_succ, hzz, List.filter_append, List.map_append]
            have e14 : (([z] : List Int).filter fun n => (lookN M.bp2.nodes ((i : Int), n)).isNone) = [z] := by simp [hlk]
            show PairsAt _ _ (_ ++ List.map _ (([z] : List Int).filter fun n => (lookN M.bp2.nodes ((i : Int), n)).isNone))
            rw [e14]
            exact ((hw.keep t13).append (PairsAt.one (q := ((i : Int), z)) hb13)).keep (tup_other hD13 lst_ne)
          | some pg =>
            refine iteF ?_
            refine ⟨h12, m11.trans (Mv.same s12), s12 _ _ hv11, hp11.keep (TupKeep.of_same s12), s12 _ _ hz11, ⟨ws, s12 _ _ hD, ?_⟩, d1, d2, d3, d4⟩
            rw [List.take_succ, hzz, List.filter_append, List.map_append]
            have e14 : (([z] : List Int).filter fun n => (lookN M.bp2.nodes ((i : Int), n)).isNone) = [] := by simp [hlk]
            show PairsAt _ _ (_ ++ List.map _ (([z] : List Int).filter fun n => (lookN M.bp2.nodes ((i : Int), n)).isNone))
            rw [e14, List.map_nil, List.append_nil]
            exact hw.keep (TupKeep.of_same s12)
        · rintro D H11 ⟨h11, m11, hv11, hp11, hz11, ⟨ws, hD, hw⟩, d1, d2, d3, d4⟩
          rw [List.length_map, List.take_length] at hw
          have hbl := begun_len M.bp2 (M.newest + 1) S.fanout i
          have hvl := hp11.1
          have hwl : ws.length ≤ 2 := by
            rw [hw.1, List.length_map]
            exact Nat.le_trans (List.length_filter_le _ _) (wanted_le (M := M.bp2) (num := M.newest + 1) (i := (i : Int)) hp0 (by rw [q1]; exact hnew)).2
          refine ⟨lb, D, vs, ws, rfl, rfl, hv11, hD, by simp only [sizeLine]; omega, ?_⟩
          refine ⟨h11.other nlbd hv11 lst_ne, m11.other nlb, ⟨_, upd_same, ?_⟩, _, _, _, rfl⟩
          rw [begun_succ]
          exact (hp11.append hw).keep (tup_other hv11 lst_ne)
    · rintro σ H6 ⟨h6, m6, ⟨vs, hv, hp⟩, v5, v6, v7, rfl⟩
      have hp6 : PairsAt H6 vs (M.bpList S.fanout) := hp
      clear hp
      have hbl : (M.bpList S.fanout).length ≤ 2 * 1001 := Nat.le_trans (begun_len _ _ _ _) (by omega)
      wtm_at "go"
      refine h6.st_top T.c_Store T.n_Store_top_level fun H7 h7 m7 => ?_
      have hv7 := m7.loc nlbd hv
      have hp7 := hp6.keep m7.tups
      have hz3 : Sto.Sz (n + 1) { M.bp2 with top := M.bpLvl S.fanout } := ⟨hz2.heap, hz2.log, hz2.waiting, hz2.free, hz2.nodes, hz2.changed, hz2.ev⟩
      wtm_at "go"
      refine i_listK (SqL.of hv7) ?_
      refine i_forK (walk_list (xs := vs)) (fun i σ H' => StoreAt K a S (((M.bpList S.fanout).take i).foldl Sto.addNode { M.bp2 with top := M.bpLvl S.fanout }) H' ∧ Mv a H7 a H' ∧ ∃ v3 v5 v6 v7, σ = [some (.ref a.p), some (.int (M.newest + 1)), some (.int (M.bpLvl S.fanout)), v3, some (.ref lb), v5, v6, v7])
        ⟨h7, Mv.refl _ _, _, _, _, _, rfl⟩ (fun i σ H' _ ⟨_, m, _⟩ => SqL.of (m.loc nlbd hv7)) ?_ ?_
      · rintro i x σ H8 H8' hi ⟨h8, m8, v3, v5, v6, v7, rfl⟩ ⟨e1, hx⟩
        subst e1
        have hi2 : i < (M.bpList S.fanout).length := by rw [← hp7.1]; exact hi
        have hq := List.getElem?_eq_getElem hi2
        obtain ⟨b, rfl, hb⟩ := hp7.2 i x _ hx hq
        generalize (M.bpList S.fanout)[i] = q at hq hb
        have hb8 := m8.tups _ _ hb
        have hz8 := Sto.Sz.adds ((M.bpList S.fanout).take i) hz3
        rw [List.length_take] at hz8
        wtm_at "go"
        refine i_gtupK hb8 rfl ?_
        wtm_at "go"
        refine i_methK h8.ob stF_no_take ?_
        wtm_at "go"
        refine i_tupK (of_decide_eq_true (by kernel_rfl)) fun b9 H9 nb9 hb9 s9 => ?_
        wtm_at "go"
        refine ⟨a, S, _, _, .node q.1 q.2, rfl, h8.same s9, ⟨b9, rfl, hb9⟩, sz_ev hz8 (by omega), fun H10 h10 m10 => ?_⟩
        wtm_at "go"
        refine i_fldK h10.ob T.c_Store T.n_Store_node_places stF_node_places ?_
        wtm_at "go"
        refine i_tupK (of_decide_eq_true (by kernel_rfl)) fun b11 H11 nb11 hb11 s11 => ?_
        have hz10 := hz8.take (.node q.1 q.2)
        refine (h10.same s11).put_nodes (q := q) hb11 (by have := hz10.nodes; omega) fun H12 h12 m12 => ?_
        wtm_at "go"
        refine i_methK h12.ob stF_no_change ?_
        wtm_at "go"
        refine ⟨a, S, _, q.1, q.2, rfl, h12, Nat.lt_of_le_of_lt hz10.changed (by omega), fun H13 h13 m13 => ?_⟩
        wtm_at "go"
        refine ⟨?_, ((((m8.trans (Mv.same s9)).trans m10).trans (Mv.same s11)).trans m12).trans m13, _, _, _, _, rfl⟩
        rw [adds_take hq]
        exact h13
      · rintro σ H8 ⟨h8, m8, v3, v5, v6, v7, rfl⟩
        rw [hp7.1, List.take_length] at h8
        have hz8 := Sto.Sz.adds (M.bpList S.fanout) hz3
        have hv8 := m8.loc nlbd hv7
        have hp8 := hp7.keep m8.tups
        wtm_at "go"
        refine i_methK h8.ob stF_no_change ?_
        wtm_at "go"
        refine i_fldK h8.ob T.c_Store T.n_Store_settings stF_settings ?_
        refine h8.set.rd T.c_Settings T.n_Settings_fanout setF_fanout ?_
        refine i_rI (divw1 f2 f8) ?_
        wtm_at "go"
        refine ⟨a, S, _, 0, (M.newest + 1) / S.fanout, rfl, h8, (by have := hz8.changed; omega), fun H9 h9 m9 => ?_⟩
        have hz9 := hz8.change 0 ((M.newest + 1) / S.fanout)
        have hv9 := m9.loc nlbd hv8
        have hp9 := hp8.keep m9.tups
        wtm_at "go"
        refine i_listK (SqL.of hv9) ?_
        generalize hM9 : ((M.bpList S.fanout).foldl Sto.addNode { M.bp2 with top := M.bpLvl S.fanout }).change 0 ((M.newest + 1) / S.fanout) = M9 at h9 hz9
        refine i_forK (walk_list (xs := vs)) (fun i σ H' => StoreAt K a S (M9.changes S.fanout ((M.bpList S.fanout).take i)) H' ∧ Mv a H9 a H' ∧ ∃ v3 v5 v6 v7, σ = [some (.ref a.p), some (.int (M.newest + 1)), some (.int (M.bpLvl S.fanout)), v3, some (.ref lb), v5, v6, v7])
          ⟨h9, Mv.refl _ _, _, _, _, _, rfl⟩ (fun i σ H' _ ⟨_, m, _⟩ => SqL.of (m.loc nlbd hv9)) ?_ ?_
        · rintro i x σ H10 H10' hi ⟨h10, m10, v3, v5, v6, v7, rfl⟩ ⟨e1, hx⟩
          subst e1
          have hi2 : i < (M.bpList S.fanout).length := by rw [← hp9.1]; exact hi
          have hq := List.getElem?_eq_getElem hi2
          obtain ⟨b, rfl, hb⟩ := hp9.2 i x _ hx hq
          generalize (M.bpList S.fanout)[i] = q at hq hb
          have hb10 := m10.tups _ _ hb
          have hz10 := Sto.Sz.changes S.fanout ((M.bpList S.fanout).take i) hz9
          rw [List.length_take] at hz10
          wtm_at "go"
          refine i_gtupK hb10 rfl ?_
          wtm_at "go"
          refine i_methK h10.ob stF_no_change ?_
          wtm_at "go"
          refine i_fldK h10.ob T.c_Store T.n_Store_settings stF_settings ?_
          refine h10.set.rd T.c_Settings T.n_Settings_fanout setF_fanout ?_
          refine i_rI (divw1 f2 f8) ?_
          wtm_at "go"
          refine ⟨a, S, _, q.1 + 1, q.2 / S.fanout, rfl, h10, (by have := hz10.changed; omega), fun H11 h11 m11 => ?_⟩
          wtm_at "go"
          refine ⟨?_, m10.trans m11, _, _, _, _, rfl⟩
          rw [changes_take hq]
          exact h11
        · rintro σ H10 ⟨h10, m10, v3, v5, v6, v7, rfl⟩
          rw [hp9.1, List.take_length, ← hM9] at h10
          exact k H10 h10 ((((((mv4.trans m6).trans m7).trans m8).trans m9)).trans m10)
end
end K90


namespace K90
open PySem PySem.Spec PyProof.Rows L2 KR
local macro_rules | `(tactic| wtm_at "go1") => `(tactic| first
  | (with_reducible refine i_seq ?_) | ((with_reducible refine' i_var ?k1 ?_); (case k1 => exact rfl)) | (with_reducible refine i_c ?_) | (with_reducible refine i_asg ?_) | (with_reducible refine i_name ?_)
  | (with_reducible refine i_ret ?_) | (with_reducible refine i_retN ?_) | (with_reducible refine i_drop ?_) | (with_reducible refine i_next ?_) | (with_reducible refine i_op ?_) | (with_reducible refine i_rI0 ?_)
  | (with_reducible refine i_fld ?_) | (with_reducible refine i_setf ?_) | (with_reducible refine i_augf ?_) | (with_reducible refine i_meth ?_) | (with_reducible refine i_cons ?_) | (with_reducible refine i_nil ?_)
  | (with_reducible refine i_call ?_) | (with_reducible refine i_cb ?_) | (with_reducible refine i_test ?_) | (with_reducible refine i_tB ?_) | (with_reducible refine i_bl ?_) | (with_reducible refine i_not ?_)
  | (with_reducible refine i_if ?_) | (with_reducible refine i_ifE ?_) | (with_reducible refine i_andV ?_) | (with_reducible refine i_orV ?_) | (with_reducible refine i_notV ?_) | (with_reducible refine i_and ?_) | (with_reducible refine i_or ?_)
  | (with_reducible refine i_rEqI ?_) | (with_reducible refine i_rNeI ?_) | (with_reducible refine i_un ?_) | (with_reducible refine i_rU ?_) | (with_reducible refine i_chain ?_) | (with_reducible refine i_tpar ?_) | (with_reducible refine i_par ?_) | (with_reducible refine i_tpar3 ?_) | (with_reducible refine i_par3 ?_)
  | ((with_reducible refine' i_aug ?k1 ?_); (case k1 => exact rfl)) | (with_reducible refine i_ipI ?_) | (with_reducible refine i_tup ?_) | (with_reducible refine i_lst ?_) | (with_reducible refine i_bm ?_) | (with_reducible refine i_bm0 ?_)
  | (with_reducible refine i_for ?_) | (with_reducible refine i_list ?_) | (with_reducible refine i_rng1 ?_) | (with_reducible refine i_keys ?_) | (with_reducible refine i_lc ?_) | (with_reducible refine i_yes ?_) | (with_reducible refine i_dput ?_)
  | (with_reducible refine i_dget ?_) | (with_reducible refine i_din ?_) | (with_reducible refine i_dnotin ?_) | (with_reducible refine i_dget1 ?_) | (with_reducible refine i_dget2 ?_) | (with_reducible refine i_dpop2 ?_)
  | (with_reducible refine q_max2 ?_) | (with_reducible refine q_min2 ?_) | (with_reducible refine q_notN ?_) | (with_reducible refine q_isN ?_) | (with_reducible refine i_gtup ?_) | (with_reducible refine i_gcons ?_) | (with_reducible refine i_gnil ?_) | (with_reducible refine i_make ?_) | (with_reducible refine i_dnewK ?_) | (with_reducible refine i_dnewT ?_)
  | (with_reducible refine q_int1 ?_) | (with_reducible refine q_int1b ?_) | (with_reducible refine i_sl ?_) | (with_reducible refine i_npart ?_) | (with_reducible refine i_part ?_) | (with_reducible refine i_pint ?_) | (with_reducible refine i_pcons ?_) | (with_reducible refine i_pnil ?_) | (with_reducible refine i_gsub ?_) | (with_reducible refine i_makeKw ?_)
  | (with_reducible refine i_rAdd ?_) | (with_reducible refine i_rSub ?_) | (with_reducible refine i_isN ?_))
local macro_rules | `(tactic| wtm_at "go") => `(tactic| repeat (wtm_at "go1"))

def kOf (H : Hp) : V → Int × Int
  | .ref t => match H t with
    | some (.tup [.int a, .int b]) => (a, b)
    | _ => (0, 0)
  | _ => (0, 0)
theorem kOf_at {H : Hp} {b : Addr} {q : Int × Int} (h : H b = some (.tup [.int q.1, .int q.2])) : kOf H (.ref b) = q := by
  unfold kOf
  simp only [h]
theorem PairsAt.kmap {H : Hp} {vs : List V} {qs : List (Int × Int)} (h : PairsAt H vs qs) : vs.map (kOf H) = qs := by
  refine List.ext_getElem (by rw [List.length_map]; exact h.1) fun i h1 h2 => ?_
  rw [List.length_map] at h1
  obtain ⟨b, e, hb⟩ := h.2 i _ _ (List.getElem?_eq_getElem h1) (List.getElem?_eq_getElem h2)
  rw [List.getElem_map, e]
  exact kOf_at hb
theorem PairsAt.mem {H : Hp} {vs : List V} {qs : List (Int × Int)} (h : PairsAt H vs qs) {x : V} (hx : x ∈ vs) : ∃ t, x = V.ref t ∧ H t = some (.tup [.int (kOf H x).1, .int (kOf H x).2]) := by
  obtain ⟨i, hi, rfl⟩ := List.mem_iff_getElem.mp hx
  have hi2 : i < qs.length := by rw [← h.1]; exact hi
  obtain ⟨b, e, hb⟩ := h.2 i _ _ (List.getElem?_eq_getElem hi) (List.getElem?_eq_getElem hi2)
  refine ⟨b, e, ?_⟩
  rw [e, kOf_at hb]
  exact hb
theorem PairsAt.of {H : Hp} {vs : List V} (h : ∀ x ∈ vs, ∃ t, x = V.ref t ∧ H t = some (.tup [.int (kOf H x).1, .int (kOf H x).2])) : PairsAt H vs (vs.map (kOf H)) := by
  refine ⟨by simp, fun i v q h1 h2 => ?_⟩
  rw [List.getElem?_map, h1] at h2
  cases h2
  exact h v (List.mem_of_getElem? h1)
theorem leP_trans (a b c : Int × Int) (h1 : leP a b = true) (h2 : leP b c = true) : leP a c = true := by
  unfold leP at *
  have := of_decide_eq_true h1
  have := of_decide_eq_true h2
  exact decide_eq_true (by omega)
theorem leP_total (a b : Int × Int) : (leP a b || leP b a) = true := by
  unfold leP
  by_cases h : (a.1 < b.1 ∨ (a.1 = b.1 ∧ a.2 ≤ b.2))
  · simp [h]
  · have : b.1 < a.1 ∨ (b.1 = a.1 ∧ b.2 ≤ a.2) := by omega
    simp [this]
theorem isortP_spec (l : List (Int × Int)) : (isortP l).Perm l ∧ (isortP l).Pairwise (fun a b => leP a b = true) :=
  ⟨List.mergeSort_perm _ _, List.pairwise_mergeSort leP_trans leP_total l⟩
theorem isortP_eq {l zs : List (Int × Int)} (p : zs.Perm l) (h : zs.Pairwise (fun a b => leP a b = true)) : zs = isortP l :=
  List.Perm.eq_of_pairwise (fun a b _ _ h1 h2 => by
    unfold leP at *
    have := of_decide_eq_true h1
    have := of_decide_eq_true h2
    exact Prod.ext (by omega) (by omega)) h (isortP_spec l).2 (p.trans (isortP_spec l).1.symm)
theorem q_sortedP {K : PySem.W.Frag} {H : Hp} {Q : VK} {a : Addr} {vs : List V} {qs : List (Int × Int)} (h : H a = some (.lst vs)) (hp : PairsAt H vs qs) (k : ∀ ys, PairsAt H ys (isortP qs) → newK (.lst ys) H Q) : rSortedPO K [.ref a] H Q := by
  refine ⟨a, vs, kOf H, rfl, SqL.of h, fun x hx => hp.mem hx, fun ys p hs hst hn => ?_⟩
  have e : ys.map (kOf H) = isortP qs := by
    refine isortP_eq ?_ ?_
    · rw [← hp.kmap]; exact hst.perm.map _
    · refine List.pairwise_map.mpr (hs.imp fun {x y} h => ?_)
      have := SrtO.lexB_no.mp h
      unfold leP
      exact decide_eq_true (by omega)
  have hy : PairsAt H ys (isortP qs) := by
    rw [← e]
    exact PairsAt.of fun x hx => hp.mem (hst.perm.mem_iff.mp hx)
  exact newK.to (k ys hy) p hn
theorem isortP_len (l : List (Int × Int)) : (isortP l).length = l.length := (isortP_spec l).1.length_eq
theorem dels_take {M : Sto} {l : List (Int × Int)} {i : Nat} {q : Int × Int} (h : l[i]? = some q) : ((l.take (i + 1)).foldl Sto.delNode M) = ((l.take i).foldl Sto.delNode M).delNode q := by
  rw [List.take_succ, h, List.foldl_append]
  rfl
theorem lookN_filter {l : List ((Int × Int) × Int)} {p q : Int × Int} (h : q ≠ p) : lookN (l.filter fun e => decide (e.1 ≠ p)) q = lookN l q := by
  induction l with
  | nil => rfl
  | cons z r ih =>
    unfold lookN at ih ⊢
    rw [List.filter_cons]
    by_cases e : z.1 = p
    · have : z.1 ≠ q := fun e2 => h (e2.symm.trans e)
      simp only [e, ne_eq, not_true_eq_false, decide_false, Bool.false_eq_true, if_false]
      rw [List.find?_cons, show decide (z.1 = q) = false by simpa using this]
      exact ih
    · simp only [ne_eq, e, not_false_eq_true, decide_true, if_true]
      rw [List.find?_cons, List.find?_cons]
      by_cases e2 : z.1 = q
      · simp [e2]
      · simp only [e2, decide_false]
        exact ih
theorem delNode_same (M : Sto) (q : Int × Int) : (M.delNode q).nodes = (M.nodes.filter fun e => decide (e.1 ≠ q)) ∧ (M.delNode q).oldest = M.oldest ∧ (M.delNode q).heap = M.heap ∧ (M.delNode q).top = M.top ∧ (M.delNode q).done = M.done ∧ (M.delNode q).log = M.log := ⟨rfl, rfl, rfl, rfl, rfl, rfl⟩
theorem dels_look : ∀ (l : List (Int × Int)) (M : Sto) (q : Int × Int), q ∉ l → lookN (l.foldl Sto.delNode M).nodes q = lookN M.nodes q
  | [], _, _, _ => rfl
  | p :: r, M, q, h => by
    rw [List.foldl_cons, dels_look r _ q fun z => h (List.mem_cons_of_mem _ z), (delNode_same M p).1]
    exact lookN_filter fun e => h (by rw [e]; exact List.mem_cons_self)
section
variable {K : PySem.W.Frag} {a : SA} {S : Sett} {M : Sto} {H : Hp} {Q : VK} {R : Hp → Prop}
theorem StoreAt.popat_nodes (h : StoreAt K a S M H) {b : Addr} {q : Int × Int} (hb : H b = some (.tup [.int q.1, .int q.2])) (hl : lookN M.nodes q ≠ none)
    (k : ∀ H', StoreAt K a S { M with nodes := M.nodes.filter fun e => decide (e.1 ≠ q) } H' → Mv a H a H' → Q (.int ((lookN M.nodes q).getD 0)) H') : rPopThere (.ref a.dn) [.ref b] H Q := by
  have g := h.set_nodes (M.nodes.filter fun e => decide (e.1 ≠ q))
  refine ⟨a.dn, _, nkey q, b, .int ((lookN M.nodes q).getD 0), rfl, rfl, h.nodes, hb, ?_, ?_⟩
  · rw [valV_nodes]
    cases e : lookN M.nodes q with
    | none => exact absurd e hl
    | some x => rfl
  · rw [dropK_nodes]
    exact k _ g.1 g.2
/-- the dict locked, then let go -/
theorem StoreAt.lockd (h : StoreAt K a S M H) {H1 : Hp} {od : Obj} (n : ∀ b o, upd H a.dn (.frz od (.dT (nodesV M.nodes))) b = some o → H1 b = some o) : StoreAt K a S M (upd H1 a.dn (.dT (nodesV M.nodes))) ∧ Mv a H a (upd H1 a.dn (.dT (nodesV M.nodes))) := by
  have e : ∀ b o, H b = some o → upd H1 a.dn (.dT (nodesV M.nodes)) b = some o := fun b o eb => by
    by_cases hb : b = a.dn
    · rw [hb] at eb ⊢
      rw [upd_same, ← eb, h.nodes]
    · rw [upd_ne hb]
      exact n b o (by rw [upd_ne hb]; exact eb)
  exact ⟨h.same e, Mv.same e⟩
end
end K90


namespace K90
open PySem PySem.Spec PyProof.Rows L2 KR
local macro_rules | `(tactic| wtm_at "go1") => `(tactic| first
  | (with_reducible refine i_seq ?_) | ((with_reducible refine' i_var ?k1 ?_); (case k1 => exact rfl)) | (with_reducible refine i_c ?_) | (with_reducible refine i_asg ?_) | (with_reducible refine i_name ?_)
  | (with_reducible refine i_ret ?_) | (with_reducible refine i_retN ?_) | (with_reducible refine i_drop ?_) | (with_reducible refine i_next ?_) | (with_reducible refine i_op ?_) | (with_reducible refine i_rI0 ?_)
  | (with_reducible refine i_fld ?_) | (with_reducible refine i_setf ?_) | (with_reducible refine i_augf ?_) | (with_reducible refine i_meth ?_) | (with_reducible refine i_cons ?_) | (with_reducible refine i_nil ?_)
  | (with_reducible refine i_call ?_) | (with_reducible refine i_cb ?_) | (with_reducible refine i_test ?_) | (with_reducible refine i_tB ?_) | (with_reducible refine i_bl ?_) | (with_reducible refine i_not ?_)
  | (with_reducible refine i_if ?_) | (with_reducible refine i_ifE ?_) | (with_reducible refine i_andV ?_) | (with_reducible refine i_orV ?_) | (with_reducible refine i_notV ?_) | (with_reducible refine i_and ?_) | (with_reducible refine i_or ?_)
  | (with_reducible refine i_rEqI ?_) | (with_reducible refine i_rNeI ?_) | (with_reducible refine i_un ?_) | (with_reducible refine i_rU ?_) | (with_reducible refine i_chain ?_) | (with_reducible refine i_tpar ?_) | (with_reducible refine i_par ?_) | (with_reducible refine i_tpar3 ?_) | (with_reducible refine i_par3 ?_)
  | ((with_reducible refine' i_aug ?k1 ?_); (case k1 => exact rfl)) | (with_reducible refine i_ipI ?_) | (with_reducible refine i_tup ?_) | (with_reducible refine i_lst ?_) | (with_reducible refine i_bm ?_) | (with_reducible refine i_bm0 ?_)
  | (with_reducible refine i_for ?_) | (with_reducible refine i_list ?_) | (with_reducible refine i_rng1 ?_) | (with_reducible refine i_keys ?_) | (with_reducible refine i_lc ?_) | (with_reducible refine i_yes ?_) | (with_reducible refine i_dput ?_)
  | (with_reducible refine i_dget ?_) | (with_reducible refine i_din ?_) | (with_reducible refine i_dnotin ?_) | (with_reducible refine i_dget1 ?_) | (with_reducible refine i_dget2 ?_) | (with_reducible refine i_dpop2 ?_)
  | (with_reducible refine q_max2 ?_) | (with_reducible refine q_min2 ?_) | (with_reducible refine q_notN ?_) | (with_reducible refine q_isN ?_) | (with_reducible refine i_gtup ?_) | (with_reducible refine i_gcons ?_) | (with_reducible refine i_gnil ?_) | (with_reducible refine i_make ?_) | (with_reducible refine i_dnewK ?_) | (with_reducible refine i_dnewT ?_)
  | (with_reducible refine q_int1 ?_) | (with_reducible refine q_int1b ?_) | (with_reducible refine i_sl ?_) | (with_reducible refine i_npart ?_) | (with_reducible refine i_part ?_) | (with_reducible refine i_pint ?_) | (with_reducible refine i_pcons ?_) | (with_reducible refine i_pnil ?_) | (with_reducible refine i_gsub ?_) | (with_reducible refine i_makeKw ?_)
  | (with_reducible refine i_rAdd ?_) | (with_reducible refine i_rSub ?_) | (with_reducible refine i_isN ?_))
local macro_rules | `(tactic| wtm_at "go") => `(tactic| repeat (wtm_at "go1"))

theorem ep2_same (M : Sto) : M.ep2.nodes = M.nodes ∧ M.ep2.oldest = M.oldest + 1 ∧ M.ep2.heap = M.heap.tail ∧ M.ep2.top = M.top := ⟨rfl, rfl, rfl, rfl⟩
theorem ep2_sz {M : Sto} {n : Nat} (h : M.Sz n) : M.ep2.Sz (n + 1) := by
  have h1 : Sto.Sz n { M with heap := M.heap.tail } := ⟨by have := h.heap; show M.heap.tail.length ≤ n; rw [List.length_tail]; omega, h.log, h.waiting, h.free, h.nodes, h.changed, h.ev⟩
  obtain ⟨a, b, c, d, e, f, g⟩ := h1.give (M.heap.headD 0) (.heap M.oldest)
  exact ⟨a, b, c, d, e, f, g⟩
theorem ended1_len (s : Sto) (lvl : Int) : (ended1 s lvl).length ≤ s.nodes.length := by
  unfold ended1
  refine Nat.le_trans (List.length_filter_le _ _) ?_
  simp
theorem i_tlock {σ : L2.St} {H : Hp} {D : Ends} {t : TS} {d : Addr} {u : HO} (h : H d = some u) (mu : Mut (some u))
    (k : ∀ od, t ⟨fun σ' H' => H' d = some (.frz od u) ∧ D.nx σ' (upd H' d u), fun v H' => H' d = some (.frz od u) ∧ D.rt v (upd H' d u), fun σ' H' => H' d = some (.frz od u) ∧ D.bk σ' (upd H' d u), fun σ' H' => H' d = some (.frz od u) ∧ D.ct σ' (upd H' d u)⟩ σ (upd H d (.frz od u))) : tLock t D σ H := ⟨d, u, h, mu, k⟩
theorem q_catT {K : PySem.W.Frag} {H : Hp} {Q : VK} {a b : Addr} {xs ys : List V} (h1 : H a = some (.tup xs)) (h2 : H b = some (.tup ys)) (n1 : xs ≠ []) (n2 : ys ≠ []) (z : xs.length + ys.length ≤ sizeLine) (k : newK (.tup (xs ++ ys)) H Q) : rCatT K (.ref a) (.ref b) H Q := ⟨a, b, xs, ys, rfl, rfl, SqT.of h1, SqT.of h2, n1, z, fun e => absurd e n2, fun _ => newK.to k⟩
theorem iteJ {c : Bool} {t u : TE} {σ : L2.St} {H : Hp} {R : VK} (v : V) (ht : ∀ Q : VK, Q v H → if c = true then t σ H Q else u σ H Q) (hR : R v H) : if c = true then t σ H R else u σ H R := ht R hR
section
variable {P : Program} {w : World} {K : PySem.W.Frag} {mg : Str → Option Value} {base : Heap}
def sp_Store_end_page (K : PySem.W.Frag) : Sp := fun vs H Q _ => ∃ (a : SA) (S : Sett) (M : Sto) (n : Nat), vs = [.ref a.p] ∧ StoreAt K a S M H ∧ M.Sz n ∧ 8 * n + 20000 ≤ sizeLine ∧ 0 ≤ M.oldest ∧ M.newest.toNat + 2 ≤ 2 ^ 1000 ∧ M.heap ≠ [] ∧ (M.epList S.fanout).Nodup ∧ (∀ q ∈ M.epList S.fanout, lookN M.nodes q ≠ none) ∧ ∀ H', StoreAt K a S (M.endPage S.fanout) H' → Mv a H a H' → Q .non H'
theorem O_Store_end_page (T : Tx K mg) : MF P w K mg base CX0 (He.ga K "Store") "end_page" ["self"] 3 (sp_Store_end_page K) := by
  have O_root_level := O_root_level (P := P) (w := w) (base := base) T
  have O_Store_newest := O_Store_newest (P := P) (w := w) (base := base) T
  have O_Store_give := O_Store_give (P := P) (w := w) (base := base) T
  have O_Store_change := O_Store_change (P := P) (w := w) (base := base) T
  obtain ⟨fd, F⟩ := T.F_Store_end_page
  refine ⟨_, fd, ?_, T.m_Store_end_page, F.bindsN fun _ _ _ _ _ _ us hl => match us, hl with | [_], _ => rfl⟩
  refine F.ok sc_Core_end_page (fun vs H Q E h => ?_) (fun cdv A outer s H vs Q E hr h => ?_)
  · first | (obtain ⟨rfl, _⟩ := h; rfl) | (obtain ⟨_, rfl, _⟩ := h; rfl) | (obtain ⟨_, _, rfl, _⟩ := h; rfl) | (obtain ⟨_, _, _, rfl, _⟩ := h; rfl) | (obtain ⟨_, _, _, _, rfl, _⟩ := h; rfl) | (obtain ⟨_, _, _, _, _, rfl, _⟩ := h; rfl) | (obtain ⟨_, _, _, _, _, _, rfl, _⟩ := h; rfl) | (obtain ⟨_, _, _, _, _, _, _, rfl, _⟩ := h; rfl) | (obtain ⟨_, _, _, _, _, _, _, _, rfl, _⟩ := h; rfl) | (obtain ⟨_, _, _, _, _, _, _, _, _, rfl, _⟩ := h; rfl) | (obtain ⟨_, _, _, _, _, _, _, _, _, _, rfl, _⟩ := h; rfl) | (obtain ⟨_, _, _, _, _, _, _, _, _, _, _, rfl, _⟩ := h; rfl) | (obtain ⟨_, _, _, _, _, _, _, _, _, _, _, _, rfl, _⟩ := h; rfl) | (obtain ⟨_, _, _, _, _, _, _, _, _, _, _, _, _, rfl, _⟩ := h; rfl) | (obtain ⟨_, _, _, _, _, _, _, _, _, _, _, _, _, _, rfl, _⟩ := h; rfl) | (obtain ⟨_, _, _, _, _, _, _, _, _, _, _, _, _, _, _, rfl, _⟩ := h; rfl) | (obtain ⟨_, _, _, _, _, _, _, _, _, _, _, _, _, _, _, _, rfl, _⟩ := h; rfl) | (obtain ⟨_, _, _, _, _, _, _, _, _, _, _, _, _, _, _, _, _, rfl, _⟩ := h; rfl) | (obtain ⟨_, _, _, _, _, _, _, _, _, _, _, _, _, _, _, _, _, _, rfl, _⟩ := h; rfl) | (obtain ⟨_, _, _, _, _, _, _, _, _, _, _, _, _, _, _, _, _, _, _, rfl, _⟩ := h; rfl) | (obtain ⟨_, _, _, _, _, _, _, _, _, _, _, _, _, _, _, _, _, _, _, _, rfl, _⟩ := h; rfl) | (obtain ⟨_, _, _, _, _, _, _, _, _, _, _, _, _, _, _, _, _, _, _, _, _, rfl, _⟩ := h; rfl)
  · obtain ⟨a, S, M, n, rfl, hs, hz, hn, h0, hw, hne, hnd, hin, k⟩ := h
    have hS := hs.set.ok
    have f2 := hS.f2
    have f8 := hS.f8
    have hzh := hz.heap
    have hzn := hz.nodes
    refine ⟨_, PSs.nox (pss_cons (ps_set (i := 1) sc_Core_end_page.nd rfl (Or.inl rfl) (pe_fld (pv 0) rfl))
  (pss_cons (ps_expr (pm O_Store_give T.c_Store hr pass0 (pv 0) (pa_cons (pe_bm PySem.F.plainAttrs_list PySem.F.slot_list_pop PySem.F.type_list_pop mt_popAt (pe_fld (pv 0) rfl) (pa_cons pe_int pa_nil)) (pa_cons (pe_tup (pa_cons pe_str (pa_cons (pv 1) pa_nil))) pa_nil))))
  (pss_cons (ps_fldaug (pv 0) pe_int in_add)
  (pss_cons (ps_set (i := 2) sc_Core_end_page.nd rfl (Or.inr rfl) (pe_ifExp (pt_cmpR (op_neD hr.units) (pe_fld (pv 0) rfl) (pe_lst pa_nil) (nomark _)) (pg O_root_level hr pass0 (pa_cons (pe_fld (pv 0) rfl) (pa_cons (pm0 O_Store_newest T.c_Store hr pass0 (pv 0)) (pa_cons (pe_fld (pe_fld (pv 0) rfl) rfl) pa_nil)))) (pe_un un_neg pe_int)))
  (pss_cons (ps_lock (ps_setLc (i := 3) (own := [("place", 4)]) (g := gName 4) (tt := tTest (tOp (rI0 fun i j => .bl (decide (j < i))) (tOp (rIxT K) (tVar 4) (tC (.int 0))) (tVar 2))) rfl sc_Core_end_page.nd rfl rfl (sw_true rfl rfl rfl (by decide +kernel)) (pi_keys (pe_fld (pv 0) rfl)) (blkOk_by (own := [("place", 4)]) (N := ["self", "number", "level", "ended", "place", "width", "at", "one"]) (sc := defScope s_Core_end_page) (by decide +kernel)) (fun _ _ _ _ _ => by exact (pg_name (i := 4) sc_Core_end_page.nd rfl (Or.inl rfl))) (fun _ _ _ _ _ => by exact (pts_one (pt_cmpR op_gt (pe_ix ix_tup (pv 4) pe_int (fun _ _ => rfl)) (pv 2) (nomark _)))) (fun _ _ _ _ _ => by exact (pv 4))))
  (pss_cons (ps_set (i := 5) sc_Core_end_page.nd rfl (Or.inl rfl) pe_int)
  (pss_cons (ps_for PassesOwn.never rfl (pi_range1 rfl T.f_range (pa_cons (pe_op op_add (pv 2) pe_int) pa_nil)) (pg_name (i := 6) sc_Core_end_page.nd rfl (Or.inl rfl))
  (pss_cons (ps_aug (i := 5) sc_Core_end_page.nd rfl (Or.inl rfl) (pe_fld (pe_fld (pv 0) rfl) rfl) ip_mulW)
  (pss_one (ps_if (pt_cmpR op_ne (pe_op op_fdivW (pv 1) (pv 5)) (pe_op op_fdivW (pe_fld (pv 0) rfl) (pv 5)) (nomark _))
  (pss_one (ps_expr (pe_bm PySem.F.plainAttrs_list PySem.F.slot_list_append PySem.F.type_list_append mt_append (pv 3) (pa_cons (pe_tup (pa_cons (pv 6) (pa_cons (pe_op op_fdivW (pv 1) (pv 5)) pa_nil))) pa_nil))))
  pss_nil))))
  (pss_cons (ps_fld (pv 0) (pv 2) rfl)
  (pss_cons (ps_for PassesOwn.never rfl (pi_list (pe_callB cr_sortedPO (by rfl) T.f_sorted (by decide +kernel) (pa_cons (pv 3) pa_nil))) (pg_name (i := 4) sc_Core_end_page.nd rfl (Or.inl rfl))
  (pss_one (ps_expr (pm O_Store_give T.c_Store hr pass0 (pv 0) (pa_cons (pe_bm PySem.F.plainAttrs_dict PySem.F.slot_dict_pop PySem.F.type_dict_pop (mt_popT1 (hu_of hr)) (pe_fld (pv 0) rfl) (pa_cons (pv 4) pa_nil)) (pa_cons (pe_op op_catT (pe_tup (pa_cons pe_str pa_nil)) (pv 4)) pa_nil))))))
  (pss_cons (ps_expr (pm O_Store_change T.c_Store hr pass0 (pv 0) (pa_cons pe_int (pa_cons (pe_op op_fdivW (pv 1) (pe_fld (pe_fld (pv 0) rfl) rfl)) pa_nil))))
  (pss_one (ps_for PassesOwn.never rfl (pi_list (pv 3)) (pg_tup rfl (pgs_cons (pg_name (i := 6) sc_Core_end_page.nd rfl (Or.inl rfl)) (pgs_cons (pg_name (i := 7) sc_Core_end_page.nd rfl (Or.inl rfl)) pgs_nil)))
  (pss_one (ps_expr (pm O_Store_change T.c_Store hr pass0 (pv 0) (pa_cons (pe_op op_add (pv 6) pe_int) (pa_cons (pe_op op_fdivW (pv 7) (pe_fld (pe_fld (pv 0) rfl) rfl)) pa_nil))))))))))))))))), ?_⟩
    wtm_at "go"
    refine i_fldK hs.ob T.c_Store T.n_Store_oldest stF_oldest ?_
    wtm_at "go"
    refine i_methK hs.ob stF_no_give ?_
    wtm_at "go"
    refine i_fldK hs.ob T.c_Store T.n_Store_heap stF_heap ?_
    refine i_bmL hs.heap ?_
    wtm_at "go"
    refine hs.pop_heap hne fun H1 h1 m1 => ?_
    wtm_at "go"
    refine i_tupK (of_decide_eq_true (by kernel_rfl)) fun b2 H2 nb2 hb2 s2 => ?_
    wtm_at "go"
    refine ⟨a, S, _, _, _, .heap M.oldest, rfl, h1.same s2, ⟨b2, rfl, hb2⟩, (by have := hz.ev; show M.ev.length < _; omega), (by have := hz.waiting; show M.waiting.length < _; omega), fun H3 h3 m3 => ?_⟩
    wtm_at "go"
    refine i_augK h3.ob T.c_Store T.n_Store_oldest stF_oldest ?_
    wtm_at "go"
    refine h3.fin_oldest fun H4 h4' m4 => ?_
    have h4 : StoreAt K a S M.ep2 H4 := h4'
    have mv4 : Mv a H a H4 := ((m1.trans (Mv.same s2)).trans m3).trans m4
    obtain ⟨q1, q2, q3, q4⟩ := ep2_same M
    have hz2 := ep2_sz hz
    clear h4' h3 m4 m3 h1 m1 hb2 s2
    wtm_at "go"
    refine i_fldK h4.ob T.c_Store T.n_Store_heap stF_heap ?_
    wtm_at "go"
    refine i_lstK (of_decide_eq_true (by kernel_rfl)) fun l5 H5 nl5 hl5 s5 => ?_
    have h5 := h4.same s5
    have mv5 := mv4.trans (Mv.same s5)
    wtm_at "go"
    refine q_neNil h5.heap hl5 ?_
    wtm_at "go"
    have hlv : -1 ≤ M.epLvl S.fanout ∧ M.epLvl S.fanout ≤ 1000 := by
      unfold Sto.epLvl Sto.endLevel
      by_cases he : M.ep2.heap = []
      · rw [if_neg (by simpa using he)]; omega
      · rw [if_pos he]
        have hln : 1 ≤ M.ep2.heap.length := by
          cases e : M.ep2.heap with
          | nil => exact absurd e he
          | cons x r => simp
        have e1 : M.ep2.newest = M.newest := by
          unfold Sto.newest
          have e2 : M.heap.length = M.ep2.heap.length + 1 := by
            rw [q3, List.length_tail]
            have : M.heap.length ≠ 0 := fun z => hne (List.length_eq_zero_iff.mp z)
            omega
          rw [q2, e2]
          omega
        have := rootLevel_lt (b := 1000) (o := M.ep2.oldest) (n := M.ep2.newest) f2 (by omega) (by unfold Sto.newest; omega) (by omega)
        omega
    refine iteJ (.int (M.epLvl S.fanout)) (fun Q hQ => ?_) ?_
    · unfold Sto.epLvl Sto.endLevel at hQ
      by_cases he : M.ep2.heap = []
      · rw [if_neg (by simpa using he)] at hQ
        rw [show (!decide (M.ep2.heap = [])) = false by simp [he]]
        refine iteF ?_
        wtm_at "go"
        exact hQ
      · rw [if_pos he] at hQ
        rw [show (!decide (M.ep2.heap = [])) = true by simp [he]]
        refine iteT ?_
        have hln : 1 ≤ M.ep2.heap.length := by
          cases e : M.ep2.heap with
          | nil => exact absurd e he
          | cons x r => simp
        wtm_at "go"
        refine i_fldK h5.ob T.c_Store T.n_Store_oldest stF_oldest ?_
        wtm_at "go"
        refine i_methK h5.ob stF_no_newest ?_
        wtm_at "go"
        refine ⟨a, S, M.ep2, rfl, h5, ?_⟩
        wtm_at "go"
        refine i_fldK h5.ob T.c_Store T.n_Store_settings stF_settings ?_
        refine h5.set.rd T.c_Settings T.n_Settings_fanout setF_fanout ?_
        wtm_at "go"
        exact ⟨M.ep2.oldest, M.ep2.newest, S.fanout, rfl, by omega, by unfold Sto.newest; omega, f2, f8, hQ⟩
    have hlv1 := hlv.1
    have hlv2 := hlv.2
    generalize hL : M.epLvl S.fanout = lvl at hlv1 hlv2 ⊢
    wtm_at "go"
    refine i_tlock h5.nodes (by exact True.intro) fun od => ?_
    have hob : (upd H5 a.dn (.frz od (.dT (nodesV M.ep2.nodes)))) a.p = some (.ins (He.ga K "Store") a.dx (stF a M.ep2)) := (upd_ne (nd_ne h5.nd 0 6 rfl rfl (by decide))).trans h5.ob
    have hdn : (upd H5 a.dn (.frz od (.dT (nodesV M.ep2.nodes)))) a.dn = some (.frz od (.dT (nodesV M.ep2.nodes))) := upd_same
    have hno : ∀ b, b ≠ a.dn → (upd H5 a.dn (.frz od (.dT (nodesV M.ep2.nodes)))) b = H5 b := fun b hb => upd_ne hb
    have hlk : ∀ H1 : Hp, Same (upd H5 a.dn (.frz od (.dT (nodesV M.ep2.nodes)))) H1 → StoreAt K a S M.ep2 (upd H1 a.dn (.dT (nodesV M.ep2.nodes))) ∧ Mv a H5 a (upd H1 a.dn (.dT (nodesV M.ep2.nodes))) := fun H1 n => h5.lockd n
    generalize upd H5 a.dn (HO.frz od (.dT (nodesV M.ep2.nodes))) = HL at hob hdn hno hlk ⊢
    wtm_at "go"
    refine i_fldK hob T.c_Store T.n_Store_node_places stF_node_places ?_
    refine i_keysT hdn ?_
    refine i_lcK (walk_keysT (d := a.dn) (o := od) (kvs := nodesV M.ep2.nodes)) (fun D j H' => Same HL H' ∧ HL D = none ∧ ∃ ws, H' D = some (.lst ws) ∧ PairsAt H' ws (((M.ep2.nodes.map (·.1)).take j).filter fun q => decide (lvl < q.1))) ?_ ?_ ?_ ?_
    · intro D H' nD hD sD
      exact ⟨sD, nD, [], hD, PairsAt.nil⟩
    · rintro D j H' _ ⟨s, _⟩
      exact s _ _ hdn
    · rintro D j x H6 H6' hj ⟨s6, nD, ws, hD, hw⟩ ⟨e1, ky, v, b, e2, e3, hb⟩
      subst e1 e3
      unfold nodesV at e2
      rw [List.getElem?_map] at e2
      obtain ⟨z, hz1, e4⟩ := Option.map_eq_some_iff.mp e2
      cases e4
      have hb' : H6' b = some (.tup [.int z.1.1, .int z.1.2]) := hb
      wtm_at "go"
      refine ⟨rfl, ?_⟩
      wtm_at "go"
      refine i_ixT hb' (i := 0) (v := .int z.1.1) rfl ?_
      wtm_at "go"
      have et : (M.ep2.nodes.map (·.1)).take (j + 1) = (M.ep2.nodes.map (·.1)).take j ++ [z.1] := by
        rw [List.take_succ, List.getElem?_map, hz1]
        rfl
      by_cases hc : lvl < z.1.1
      · rw [decide_eq_true hc]
        refine iteT ?_
        wtm_at "go"
        have hwl : ws.length ≤ n + 1 := by
          rw [hw.1]
          refine Nat.le_trans (List.length_filter_le _ _) ?_
          rw [List.length_take, List.length_map]
          have := hz2.nodes
          omega
        refine ⟨ws, hD, by omega, fun c o ec => ?_, nD, _, upd_same, ?_⟩
        · rw [upd_ne (ne_of_none ec nD)]
          exact s6 c o ec
        · rw [et, List.filter_append]
          have e5 : ([z.1].filter fun q => decide (lvl < q.1)) = [z.1] := by simp [hc]
          rw [e5]
          exact (hw.append (PairsAt.one hb')).keep (tup_other hD lst_ne)
      · rw [decide_eq_false hc]
        refine iteF ?_
        refine ⟨s6, nD, ws, hD, ?_⟩
        rw [et, List.filter_append]
        have e5 : ([z.1].filter fun q => decide (lvl < q.1)) = [] := by simp [hc]
        rw [e5, List.append_nil]
        exact hw
    rintro lb H6' ⟨s6, nlbL, ws, hD', hw'⟩
    have hw : PairsAt H6' ws (ended1 M.ep2 lvl) := by
      have e : (nodesV M.ep2.nodes).length = (M.ep2.nodes.map (·.1)).length := by simp [nodesV]
      rw [e, List.take_length] at hw'
      exact hw'
    clear hw'
    obtain ⟨h6, m6⟩ := hlk H6' s6
    have nlb5 : H5 lb = none := by
      rw [← hno lb fun z => by rw [z, hdn] at nlbL; cases nlbL]
      exact nlbL
    have nlbd : lb ∉ a.dom := h5.fresh nlb5
    have hv6 : (upd H6' a.dn (.dT (nodesV M.ep2.nodes))) lb = some (.lst ws) := (upd_ne fun z => by rw [z, hdn] at nlbL; cases nlbL).trans hD'
    have hp6 : PairsAt (upd H6' a.dn (.dT (nodesV M.ep2.nodes))) ws (ended1 M.ep2 lvl) := hw.keep (tup_other (s6 _ _ hdn) fun xs z => by cases z)
    have hdn6 := s6 _ _ hdn
    clear hlk hno
    generalize hH6 : upd H6' a.dn (.dT (nodesV M.ep2.nodes)) = H6 at h6 m6 hv6 hp6
    wtm_at "go"
    refine ⟨hdn6, ?_⟩
    rw [hH6]
    wtm_at "go"
    refine i_rngK (by omega) (by omega) ?_
    refine i_forK walk_range (fun i σ H' => StoreAt K a S M.ep2 H' ∧ Mv a H5 a H' ∧ (∃ vs, H' lb = some (.lst vs) ∧ PairsAt H' vs (ended1 M.ep2 lvl ++ ended2 M.oldest (M.oldest + 1) S.fanout i)) ∧
      ∃ v4 v6 v7, σ = [some (.ref a.p), some (.int M.oldest), some (.int lvl), some (.ref lb), v4, some (.int (S.fanout ^ i)), v6, v7]) ?_ (fun _ _ _ _ _ => True.intro) ?_ ?_
    · exact ⟨h6, m6, ⟨ws, hv6, by simpa [ended2] using hp6⟩, none, none, none, by rw [show S.fanout ^ 0 = 1 from Int.pow_zero _]; rfl⟩
    · rintro i x σ H7 H7' hi ⟨h7, m7, ⟨vs, hv, hp⟩, v4, v6, v7, rfl⟩ ⟨e1, e2⟩
      have e3 : x = V.int (i : Int) := by
        rw [e2]
        show V.int (0 + (i : Int)) = _
        rw [Int.zero_add]
      clear e2
      subst e1 e3
      have hi2 : i < 1010 := by omega
      wtm_at "go"
      refine i_fldK h7.ob T.c_Store T.n_Store_settings stF_settings ?_
      refine h7.set.rd T.c_Settings T.n_Settings_fanout setF_fanout ?_
      refine i_rI (width_ok f2 f8 hi2).1 ?_
      rw [← Int.pow_succ]
      wtm_at "go"
      refine i_rI (divw f2 f8 (by omega)) ?_
      wtm_at "go"
      refine i_fldK h7.ob T.c_Store T.n_Store_oldest stF_oldest ?_
      wtm_at "go"
      refine i_rI (divw f2 f8 (by omega)) ?_
      wtm_at "go"
      rw [q2]
      by_cases hc : M.oldest / S.fanout ^ (i + 1) = (M.oldest + 1) / S.fanout ^ (i + 1)
      · rw [show (!decide (M.oldest / S.fanout ^ (i + 1) = (M.oldest + 1) / S.fanout ^ (i + 1))) = false by simp [hc]]
        refine iteF ?_
        wtm_at "go"
        refine ⟨h7, m7, ⟨vs, hv, ?_⟩, _, _, _, rfl⟩
        rw [ended2_succ]
        unfold endedAt
        rw [if_neg (by simpa using hc), List.append_nil]
        exact hp
      · rw [show (!decide (M.oldest / S.fanout ^ (i + 1) = (M.oldest + 1) / S.fanout ^ (i + 1))) = true by simp [hc]]
        refine iteT ?_
        wtm_at "go"
        refine i_bmL hv ?_
        wtm_at "go"
        refine i_rI (divw f2 f8 (by omega)) ?_
        wtm_at "go"
        refine i_tupK (of_decide_eq_true (by kernel_rfl)) fun b8 H8 nb8 hb8 s8 => ?_
        have h8 := h7.same s8
        have m8 := m7.trans (Mv.same s8)
        have hv8 := s8 _ _ hv
        wtm_at "go"
        have hvl : vs.length < sizeLine := by
          rw [hp.1, List.length_append]
          have l1 := ended1_len M.ep2 lvl
          have l2 := ended2_len M.oldest (M.oldest + 1) S.fanout i
          have l3 := hz2.nodes
          omega
        refine i_app hv8 hvl fun H9 hv9 n9 => ?_
        wtm_at "go"
        refine ⟨h8.but nlbd hv8 lst_ne n9, m8.but nlb5 n9, ⟨_, hv9, ?_⟩, _, _, _, rfl⟩
        rw [ended2_succ]
        unfold endedAt
        rw [if_pos (by simpa using hc), ← List.append_assoc]
        exact ((hp.keep (TupKeep.of_same s8)).append (PairsAt.one (q := ((i : Int), M.oldest / S.fanout ^ (i + 1))) hb8)).keep (tup_but hv8 lst_ne n9)
    · rintro σ H7 ⟨h7, m7, ⟨vs, hv, hp⟩, v4, v6, v7, rfl⟩
      have hp7 : PairsAt H7 vs (M.epList S.fanout) := by
        unfold Sto.epList
        rw [hL]
        exact hp
      clear hp
      have hbl : (M.epList S.fanout).length ≤ n + 1003 := by
        unfold Sto.epList
        rw [hL, List.length_append]
        have l1 := ended1_len M.ep2 lvl
        have l2 := ended2_len M.oldest (M.oldest + 1) S.fanout (lvl + 1).toNat
        have l3 := hz2.nodes
        omega
      generalize hLi : M.epList S.fanout = Li at hbl hp7 hnd hin
      have hk : M.endPage S.fanout = (((isortP Li).foldl Sto.delNode { M.ep2 with top := lvl }).change 0 (M.oldest / S.fanout)).changes S.fanout Li := by
        unfold Sto.endPage
        rw [hL, hLi]
      wtm_at "go"
      refine h7.st_top T.c_Store T.n_Store_top_level fun H8 h8 m8 => ?_
      have hv8 := m8.loc nlbd hv
      have hp8 := hp7.keep m8.tups
      have hz3 : Sto.Sz (n + 1) { M.ep2 with top := lvl } := ⟨hz2.heap, hz2.log, hz2.waiting, hz2.free, hz2.nodes, hz2.changed, hz2.ev⟩
      wtm_at "go"
      refine q_sortedP hv8 hp8 fun ys hy => ?_
      intro zl H9 nzl hzl s9
      have h9 := h8.same s9
      have hv9 := s9 _ _ hv8
      have hp9 := hp8.keep (TupKeep.of_same s9)
      have hy9 := hy.keep (TupKeep.of_same s9)
      have nzld := h8.fresh nzl
      refine i_listK (SqL.of hzl) ?_
      generalize hM1 : ({ M.ep2 with top := lvl } : Sto) = M1 at h9 hz3 hk
      have hM1n : M1.nodes = M.nodes := by rw [← hM1]; exact q1
      have hM1o : M1.oldest = M.oldest + 1 := by rw [← hM1]; exact q2
      refine i_forK (walk_list (xs := ys)) (fun i σ H' => StoreAt K a S (((isortP Li).take i).foldl Sto.delNode M1) H' ∧ Mv a H9 a H' ∧ ∃ v4 v5 v6 v7, σ = [some (.ref a.p), some (.int M.oldest), some (.int lvl), some (.ref lb), v4, v5, v6, v7])
        ⟨h9, Mv.refl _ _, _, _, _, _, rfl⟩ (fun i σ H' _ ⟨_, m, _⟩ => SqL.of (m.loc nzld hzl)) ?_ ?_
      · rintro i x σ H10 H10' hi ⟨h10, m10, v4, v5, v6, v7, rfl⟩ ⟨e1, hx⟩
        subst e1
        have hi2 : i < (isortP Li).length := by rw [← hy9.1]; exact hi
        have hq := List.getElem?_eq_getElem hi2
        obtain ⟨b, rfl, hb⟩ := hy9.2 i x _ hx hq
        have hqm : (isortP Li)[i] ∈ Li := (isortP_spec Li).1.mem_iff.mp (List.getElem_mem _)
        have hql : lookN (((isortP Li).take i).foldl Sto.delNode M1).nodes (isortP Li)[i] ≠ none := by
          rw [dels_look _ _ _ fun z => ?_, hM1n]
          · exact hin _ hqm
          · have hnd2 : (isortP Li).Nodup := (isortP_spec Li).1.nodup_iff.mpr hnd
            obtain ⟨j, hj, e⟩ := List.mem_iff_getElem.mp z
            rw [List.getElem_take] at e
            rw [List.length_take] at hj
            have := (List.getElem_inj hnd2).mp e
            omega
        generalize (isortP Li)[i] = q at hq hb hqm hql
        have hb10 := m10.tups _ _ hb
        have hz10 := Sto.Sz.dels ((isortP Li).take i) hz3
        rw [List.length_take, isortP_len] at hz10
        wtm_at "go"
        refine i_methK h10.ob stF_no_give ?_
        wtm_at "go"
        refine i_fldK h10.ob T.c_Store T.n_Store_node_places stF_node_places ?_
        refine ⟨.inr (.inr (.inl ⟨rfl, .inr ⟨_, h10.nodes⟩⟩)), ?_⟩
        wtm_at "go"
        refine h10.popat_nodes hb10 hql fun H11 h11 m11 => ?_
        have hb11 := m11.tups _ _ hb10
        wtm_at "go"
        refine i_tupK (of_decide_eq_true (by kernel_rfl)) fun b12 H12 nb12 hb12 s12 => ?_
        wtm_at "go"
        refine q_catT hb12 (s12 _ _ hb11) (fun z => nomatch z) (fun z => nomatch z) (of_decide_eq_true (by kernel_rfl)) fun b13 H13 nb13 hb13 s13 => ?_
        have h13 := (h11.same s12).same s13
        wtm_at "go"
        refine ⟨a, S, _, _, _, .node q.1 q.2, rfl, h13, ⟨b13, rfl, hb13⟩, (by have := hz10.ev; show (List.foldl Sto.delNode M1 _).ev.length < _; omega), (by have := hz10.waiting; show (List.foldl Sto.delNode M1 _).waiting.length < _; omega), fun H14 h14 m14 => ?_⟩
        wtm_at "go"
        refine ⟨?_, (((m10.trans m11).trans (Mv.same s12)).trans (Mv.same s13)).trans m14, _, _, _, _, rfl⟩
        rw [dels_take hq]
        exact h14
      · rintro σ H10 ⟨h10, m10, v4, v5, v6, v7, rfl⟩
        rw [hy9.1, List.take_length] at h10
        have hz10 := Sto.Sz.dels (isortP Li) hz3
        rw [isortP_len] at hz10
        have hv10 := m10.loc nlbd hv9
        have hp10 := hp9.keep m10.tups
        wtm_at "go"
        refine i_methK h10.ob stF_no_change ?_
        wtm_at "go"
        refine i_fldK h10.ob T.c_Store T.n_Store_settings stF_settings ?_
        refine h10.set.rd T.c_Settings T.n_Settings_fanout setF_fanout ?_
        refine i_rI (divw1 f2 f8) ?_
        wtm_at "go"
        refine ⟨a, S, _, 0, M.oldest / S.fanout, rfl, h10, (by have := hz10.changed; omega), fun H11 h11 m11 => ?_⟩
        have hz11 := hz10.change 0 (M.oldest / S.fanout)
        have hv11 := m11.loc nlbd hv10
        have hp11 := hp10.keep m11.tups
        wtm_at "go"
        refine i_listK (SqL.of hv11) ?_
        generalize hM9 : ((isortP Li).foldl Sto.delNode M1).change 0 (M.oldest / S.fanout) = M9 at h11 hz11 hk
        refine i_forK (walk_list (xs := vs)) (fun i σ H' => StoreAt K a S (M9.changes S.fanout (Li.take i)) H' ∧ Mv a H11 a H' ∧ ∃ v4 v5 v6 v7, σ = [some (.ref a.p), some (.int M.oldest), some (.int lvl), some (.ref lb), v4, v5, v6, v7])
          ⟨h11, Mv.refl _ _, _, _, _, _, rfl⟩ (fun i σ H' _ ⟨_, m, _⟩ => SqL.of (m.loc nlbd hv11)) ?_ ?_
        · rintro i x σ H12 H12' hi ⟨h12, m12, v4, v5, v6, v7, rfl⟩ ⟨e1, hx⟩
          subst e1
          have hi2 : i < Li.length := by rw [← hp11.1]; exact hi
          have hq := List.getElem?_eq_getElem hi2
          obtain ⟨b, rfl, hb⟩ := hp11.2 i x _ hx hq
          generalize Li[i] = q at hq hb
          have hb12 := m12.tups _ _ hb
          have hz12 := Sto.Sz.changes S.fanout (Li.take i) hz11
          rw [List.length_take] at hz12
          wtm_at "go"
          refine i_gtupK hb12 rfl ?_
          wtm_at "go"
          refine i_methK h12.ob stF_no_change ?_
          wtm_at "go"
          refine i_fldK h12.ob T.c_Store T.n_Store_settings stF_settings ?_
          refine h12.set.rd T.c_Settings T.n_Settings_fanout setF_fanout ?_
          refine i_rI (divw1 f2 f8) ?_
          wtm_at "go"
          refine ⟨a, S, _, q.1 + 1, q.2 / S.fanout, rfl, h12, (by have := hz12.changed; omega), fun H13 h13 m13 => ?_⟩
          wtm_at "go"
          refine ⟨?_, m12.trans m13, _, _, _, _, rfl⟩
          rw [changes_take hq]
          exact h13
        · rintro σ H12 ⟨h12, m12, v4, v5, v6, v7, rfl⟩
          rw [hp11.1, List.take_length] at h12
          refine k H12 ?_ (((((((mv5.trans m7).trans m8).trans (Mv.same s9)).trans m10)).trans m11).trans m12)
          rw [hk]
          exact h12
end
end K90


namespace K90
open PySem PySem.Spec PyProof.Rows L2 KR
local macro_rules | `(tactic| wtm_at "go1") => `(tactic| first
  | (with_reducible refine i_seq ?_) | ((with_reducible refine' i_var ?k1 ?_); (case k1 => exact rfl)) | (with_reducible refine i_c ?_) | (with_reducible refine i_asg ?_) | (with_reducible refine i_name ?_)
  | (with_reducible refine i_ret ?_) | (with_reducible refine i_retN ?_) | (with_reducible refine i_drop ?_) | (with_reducible refine i_next ?_) | (with_reducible refine i_op ?_) | (with_reducible refine i_rI0 ?_)
  | (with_reducible refine i_fld ?_) | (with_reducible refine i_setf ?_) | (with_reducible refine i_augf ?_) | (with_reducible refine i_meth ?_) | (with_reducible refine i_cons ?_) | (with_reducible refine i_nil ?_)
  | (with_reducible refine i_call ?_) | (with_reducible refine i_cb ?_) | (with_reducible refine i_test ?_) | (with_reducible refine i_tB ?_) | (with_reducible refine i_bl ?_) | (with_reducible refine i_not ?_)
  | (with_reducible refine i_if ?_) | (with_reducible refine i_ifE ?_) | (with_reducible refine i_andV ?_) | (with_reducible refine i_orV ?_) | (with_reducible refine i_notV ?_) | (with_reducible refine i_and ?_) | (with_reducible refine i_or ?_)
  | (with_reducible refine i_rEqI ?_) | (with_reducible refine i_rNeI ?_) | (with_reducible refine i_un ?_) | (with_reducible refine i_rU ?_) | (with_reducible refine i_chain ?_) | (with_reducible refine i_tpar ?_) | (with_reducible refine i_par ?_) | (with_reducible refine i_tpar3 ?_) | (with_reducible refine i_par3 ?_)
  | ((with_reducible refine' i_aug ?k1 ?_); (case k1 => exact rfl)) | (with_reducible refine i_ipI ?_) | (with_reducible refine i_tup ?_) | (with_reducible refine i_lst ?_) | (with_reducible refine i_bm ?_) | (with_reducible refine i_bm0 ?_)
  | (with_reducible refine i_for ?_) | (with_reducible refine i_list ?_) | (with_reducible refine i_rng1 ?_) | (with_reducible refine i_keys ?_) | (with_reducible refine i_lc ?_) | (with_reducible refine i_yes ?_) | (with_reducible refine i_dput ?_)
  | (with_reducible refine i_dget ?_) | (with_reducible refine i_din ?_) | (with_reducible refine i_dnotin ?_) | (with_reducible refine i_dget1 ?_) | (with_reducible refine i_dget2 ?_) | (with_reducible refine i_dpop2 ?_)
  | (with_reducible refine q_max2 ?_) | (with_reducible refine q_min2 ?_) | (with_reducible refine q_notN ?_) | (with_reducible refine q_isN ?_) | (with_reducible refine i_gtup ?_) | (with_reducible refine i_gcons ?_) | (with_reducible refine i_gnil ?_) | (with_reducible refine i_make ?_) | (with_reducible refine i_dnewK ?_) | (with_reducible refine i_dnewT ?_)
  | (with_reducible refine q_int1 ?_) | (with_reducible refine q_int1b ?_) | (with_reducible refine i_sl ?_) | (with_reducible refine i_npart ?_) | (with_reducible refine i_part ?_) | (with_reducible refine i_pint ?_) | (with_reducible refine i_pcons ?_) | (with_reducible refine i_pnil ?_) | (with_reducible refine i_gsub ?_) | (with_reducible refine i_makeKw ?_)
  | (with_reducible refine i_rAdd ?_) | (with_reducible refine i_rSub ?_) | (with_reducible refine i_isN ?_))
local macro_rules | `(tactic| wtm_at "go") => `(tactic| repeat (wtm_at "go1"))

theorem i_joinS {c : Bool} {t u : TS} {D : Ends} {σ : L2.St} {H : Hp} (P : Hp → Prop) (ht : ∀ D' : Ends, (∀ H', P H' → D'.nx σ H') → if c = true then t D' σ H else u D' σ H) (h : ∀ H', P H' → D.nx σ H') : if c = true then t D σ H else u D σ H := ht D h
section
variable {P : Program} {w : World} {K : PySem.W.Frag} {mg : Str → Option Value} {base : Heap}
def sp_Store_put_row (K : PySem.W.Frag) : Sp := fun vs H Q _ => ∃ (a : SA) (S : Sett) (M : Sto), vs = [.ref a.p] ∧ StoreAt K a S M H ∧ M.Rdy S ∧ ∀ H' a', StoreAt K a' S (M.putRow S.cf) H' → Mv a H a' H' → Q .non H'
theorem O_Store_put_row (T : Tx K mg) : MF P w K mg base CX0 (He.ga K "Store") "put_row" ["self"] 4 (sp_Store_put_row K) := by
  have O_Store_take := O_Store_take (P := P) (w := w) (base := base) T
  have O_Store_note := O_Store_note (P := P) (w := w) (base := base) T
  have O_Store_newest := O_Store_newest (P := P) (w := w) (base := base) T
  have O_Packing_start := O_Packing_start (P := P) (w := w) (base := base) T
  have O_Store_begin_page := O_Store_begin_page (P := P) (w := w) (base := base) T
  have O_Store_end_page := O_Store_end_page (P := P) (w := w) (base := base) T
  have O_Store_checkpoint := O_Store_checkpoint (P := P) (w := w) (base := base) T
  obtain ⟨fd, F⟩ := T.F_Store_put_row
  refine ⟨_, fd, ?_, T.m_Store_put_row, F.bindsN fun _ _ _ _ _ _ us hl => match us, hl with | [_], _ => rfl⟩
  refine F.ok sc_Core_put_row (fun vs H Q E h => ?_) (fun cdv A outer s H vs Q E hr h => ?_)
  · first | (obtain ⟨rfl, _⟩ := h; rfl) | (obtain ⟨_, rfl, _⟩ := h; rfl) | (obtain ⟨_, _, rfl, _⟩ := h; rfl) | (obtain ⟨_, _, _, rfl, _⟩ := h; rfl) | (obtain ⟨_, _, _, _, rfl, _⟩ := h; rfl) | (obtain ⟨_, _, _, _, _, rfl, _⟩ := h; rfl) | (obtain ⟨_, _, _, _, _, _, rfl, _⟩ := h; rfl) | (obtain ⟨_, _, _, _, _, _, _, rfl, _⟩ := h; rfl) | (obtain ⟨_, _, _, _, _, _, _, _, rfl, _⟩ := h; rfl) | (obtain ⟨_, _, _, _, _, _, _, _, _, rfl, _⟩ := h; rfl) | (obtain ⟨_, _, _, _, _, _, _, _, _, _, rfl, _⟩ := h; rfl) | (obtain ⟨_, _, _, _, _, _, _, _, _, _, _, rfl, _⟩ := h; rfl) | (obtain ⟨_, _, _, _, _, _, _, _, _, _, _, _, rfl, _⟩ := h; rfl) | (obtain ⟨_, _, _, _, _, _, _, _, _, _, _, _, _, rfl, _⟩ := h; rfl) | (obtain ⟨_, _, _, _, _, _, _, _, _, _, _, _, _, _, rfl, _⟩ := h; rfl) | (obtain ⟨_, _, _, _, _, _, _, _, _, _, _, _, _, _, _, rfl, _⟩ := h; rfl) | (obtain ⟨_, _, _, _, _, _, _, _, _, _, _, _, _, _, _, _, rfl, _⟩ := h; rfl) | (obtain ⟨_, _, _, _, _, _, _, _, _, _, _, _, _, _, _, _, _, rfl, _⟩ := h; rfl) | (obtain ⟨_, _, _, _, _, _, _, _, _, _, _, _, _, _, _, _, _, _, rfl, _⟩ := h; rfl) | (obtain ⟨_, _, _, _, _, _, _, _, _, _, _, _, _, _, _, _, _, _, _, rfl, _⟩ := h; rfl) | (obtain ⟨_, _, _, _, _, _, _, _, _, _, _, _, _, _, _, _, _, _, _, _, rfl, _⟩ := h; rfl) | (obtain ⟨_, _, _, _, _, _, _, _, _, _, _, _, _, _, _, _, _, _, _, _, _, rfl, _⟩ := h; rfl)
  · obtain ⟨a, S, M, rfl, hs, hr2, k⟩ := h
    have hS := hs.set.ok
    have z1 := hr2.sz
    have z3 := hr2.sz3 hS
    have z5 := hr2.sz5 hS
    have z6 := hr2.sz6 hS
    have hk := Sto.putRow_eq M S.cf
    refine ⟨_, PSs.nox (pss_cons (ps_set (i := 1) sc_Core_put_row.nd rfl (Or.inl rfl) (pe_fld (pv 0) rfl))
  (pss_cons (ps_set (i := 2) sc_Core_put_row.nd rfl (Or.inl rfl) (pe_op op_mod (pv 1) (pe_fld (pe_fld (pv 0) rfl) rfl)))
  (pss_cons (ps_if (pt_cmpR op_eq (pe_op op_mod (pv 2) (pe_fld (pe_fld (pv 0) rfl) rfl)) pe_int (nomark _))
  (pss_one (ps_expr (pe_bm PySem.F.plainAttrs_list PySem.F.slot_list_append PySem.F.type_list_append mt_append (pe_fld (pv 0) rfl) (pa_cons (pm O_Store_take T.c_Store hr pass0 (pv 0) (pa_cons (pe_tup (pa_cons pe_str (pa_cons (pe_op op_fdiv (pv 2) (pe_fld (pe_fld (pv 0) rfl) rfl)) pa_nil))) pa_nil)) pa_nil))))
  pss_nil)
  (pss_cons (ps_expr (pm O_Store_note T.c_Store hr pass0 (pv 0) (pa_cons pe_str (pa_cons (pe_ix ix_list (pe_fld (pv 0) rfl) (pe_un un_neg pe_int) (fun _ _ => rfl)) (pa_cons (pv 1) pa_nil)))))
  (pss_cons (ps_if (pt_cmpR op_eq (pv 1) (pm O_Packing_start T.c_Packing hr pass0 (pe_fld (pv 0) rfl) (pa_cons (pe_op op_add (pm0 O_Store_newest T.c_Store hr pass0 (pv 0)) pe_int) pa_nil)) (nomark _))
  (pss_one (ps_expr (pm0 O_Store_begin_page T.c_Store hr pass0 (pv 0))))
  pss_nil)
  (pss_cons (ps_dput (hu_of hr) (pe_fld (pv 0) rfl) (pe_ix ix_list (pe_fld (pv 0) rfl) (pe_un un_neg pe_int) (fun _ _ => rfl)) pe_bl rfl)
  (pss_cons (ps_expr (pm O_Store_note T.c_Store hr pass0 (pv 0) (pa_cons pe_str (pa_cons (pe_ix ix_list (pe_fld (pv 0) rfl) (pe_un un_neg pe_int) (fun _ _ => rfl)) (pa_cons (pv 1) pa_nil)))))
  (pss_cons (ps_if (pt_cmpR op_eq (pe_op op_add (pe_op op_sub (pv 1) (pe_fld (pe_fld (pv 0) rfl) rfl)) pe_int) (pm O_Packing_start T.c_Packing hr pass0 (pe_fld (pv 0) rfl) (pa_cons (pe_op op_add (pe_fld (pv 0) rfl) pe_int) pa_nil)) (nomark _))
  (pss_one (ps_expr (pm0 O_Store_end_page T.c_Store hr pass0 (pv 0))))
  pss_nil)
  (pss_cons (ps_fldaug (pv 0) pe_int in_add)
  (pss_one (ps_if (pt_cmpR op_eq (pe_op op_mod (pe_fld (pv 0) rfl) (pe_fld (pe_fld (pv 0) rfl) rfl)) pe_int (nomark _))
  (pss_one (ps_expr (pm0 O_Store_checkpoint T.c_Store hr pass0 (pv 0))))
  pss_nil))))))))))), ?_⟩
    wtm_at "go"
    refine i_fldK hs.ob T.c_Store T.n_Store_done stF_done ?_
    wtm_at "go"
    refine i_fldK hs.ob T.c_Store T.n_Store_settings stF_settings ?_
    refine hs.set.rd T.c_Settings T.n_Settings_every setF_every ?_
    have e1 := hS.e1
    have e40 := hS.e40
    have r1 := hS.r1
    have r16 := hS.r16
    refine i_rI (show (0 : Int) < S.every by omega) ?_
    wtm_at "go"
    refine i_fldK hs.ob T.c_Store T.n_Store_settings stF_settings ?_
    refine hs.set.rd T.c_Settings T.n_Settings_records setF_records ?_
    refine i_rI (show (0 : Int) < S.recs by omega) ?_
    wtm_at "go"
    refine i_joinS (fun H' => StoreAt K a S (M.logRow S.cf) H' ∧ Mv a H a H') (fun D' hD => ?_) ?_
    · by_cases hc : M.done % S.every % S.recs = 0
      · rw [decide_eq_true hc]
        refine iteT ?_
        obtain ⟨t1, t2, t3, t4, t5, t6, t7, t8⟩ := Sto.take_kept M (.log (M.done % S.every / S.recs))
        wtm_at "go"
        refine i_fldK hs.ob T.c_Store T.n_Store_log stF_log ?_
        refine i_bmL hs.log ?_
        wtm_at "go"
        refine i_methK hs.ob stF_no_take ?_
        wtm_at "go"
        refine i_fldK hs.ob T.c_Store T.n_Store_settings stF_settings ?_
        refine hs.set.rd T.c_Settings T.n_Settings_records setF_records ?_
        refine i_rI (by exact ⟨by omega, by omega⟩) ?_
        wtm_at "go"
        refine i_tupK (of_decide_eq_true (by kernel_rfl)) fun b1 H1 nb1 hb1 s1 => ?_
        wtm_at "go"
        refine ⟨a, S, M, _, .log (M.done % S.every / S.recs), rfl, hs.same s1, ⟨b1, rfl, hb1⟩, sz_ev z1 (of_decide_eq_true (by kernel_rfl)), fun H2 h2 m2 => ?_⟩
        wtm_at "go"
        refine h2.app_log (by rw [t7]; exact Nat.lt_of_le_of_lt z1.log (of_decide_eq_true (by kernel_rfl))) fun H3 h3 m3 => ?_
        wtm_at "go"
        refine hD H3 ⟨?_, ((Mv.same s1).trans m2).trans m3⟩
        unfold Sto.logRow
        rw [if_pos (show M.done % S.cf.every % S.cf.recs = 0 from hc)]
        exact h3
      · rw [decide_eq_false hc]
        refine iteF ?_
        wtm_at "go"
        refine hD H ⟨?_, Mv.refl _ _⟩
        unfold Sto.logRow
        rw [if_neg (show ¬ M.done % S.cf.every % S.cf.recs = 0 from hc)]
        exact hs
    rintro H1 ⟨h1, m1⟩
    have zl := z1.logRow (c := S.cf)
    wtm_at "go"
    refine i_methK h1.ob stF_no_note ?_
    wtm_at "go"
    refine i_fldK h1.ob T.c_Store T.n_Store_log stF_log ?_
    wtm_at "go"
    refine i_ixL h1.log (atI_lastD hr2.log) ?_
    wtm_at "go"
    refine ⟨a, S, _, _, _, _, .record ((M.logRow S.cf).log.getLastD 0) M.done, rfl, h1, ⟨rfl, rfl, rfl⟩, sz_ev zl (of_decide_eq_true (by kernel_rfl)), fun H2 h2' m2 => ?_⟩
    have h2 : StoreAt K a S (M.r2 S.cf) H2 := h2'
    have mv2 := m1.trans m2
    clear h2' m2 m1 h1
    obtain ⟨k1, k2, k3, k4, k5, k6, k7, k8⟩ := Sto.r2_kept M S.cf
    have z2 := z1.r2 (c := S.cf)
    wtm_at "go"
    refine i_fldK h2.ob T.c_Store T.n_Store_packing stF_packing ?_
    obtain ⟨dxp, q, hq, ep, hl⟩ := h2.pack.ob
    refine i_methK ep packF_no_start ?_
    wtm_at "go"
    refine i_methK h2.ob stF_no_newest ?_
    wtm_at "go"
    refine ⟨a, S, _, rfl, h2, ?_⟩
    wtm_at "go"
    rw [k8]
    have hn1 := hr2.new1
    have hn2 := hr2.newB
    have ho := hr2.old0
    refine ⟨a.pp, a.ts, a.ls, S, (M.newest + 1).toNat, by rw [Int.toNat_of_nonneg (by omega)]; rfl, h2.pack, fun H3 s3 => ?_⟩
    wtm_at "go"
    have h3 := h2.same s3
    have mv3 := mv2.trans (Mv.same s3)
    refine i_joinS (fun H' => StoreAt K a S (M.r3 S.cf) H' ∧ Mv a H a H') (fun D' hD => ?_) ?_
    · by_cases hc : M.done = S.at (M.newest + 1).toNat
      · rw [decide_eq_true hc]
        refine iteT ?_
        wtm_at "go"
        refine i_methK h3.ob stF_no_begin_page ?_
        wtm_at "go"
        refine ⟨a, S, _, 600002, rfl, h3, z2, of_decide_eq_true (by kernel_rfl), by rw [k1]; exact ho, ?_, fun H4 h4 m4 => ?_⟩
        · rw [k8]
          exact Nat.le_trans (show M.newest.toNat + 2 ≤ 2 ^ 21 by omega) (Nat.pow_le_pow_right (by decide) (by decide))
        wtm_at "go"
        refine hD H4 ⟨?_, mv3.trans m4⟩
        unfold Sto.r3
        rw [k8, if_pos (show M.done = S.cf.start (M.newest + 1) from hc)]
        exact h4
      · rw [decide_eq_false hc]
        refine iteF ?_
        wtm_at "go"
        refine hD H3 ⟨?_, mv3⟩
        unfold Sto.r3
        rw [k8, if_neg (show ¬ M.done = S.cf.start (M.newest + 1) from hc)]
        exact h3
    clear h3 mv3 h2 mv2
    rintro H4 ⟨h4, m4⟩
    obtain ⟨n1, n2, n3⟩ := Sto.r3_newest M S.cf
    wtm_at "go"
    refine i_fldK h4.ob T.c_Store T.n_Store_changed stF_changed ?_
    wtm_at "go"
    refine i_fldK h4.ob T.c_Store T.n_Store_heap stF_heap ?_
    wtm_at "go"
    refine i_ixL h4.heap (atI_lastD hr2.heap) ?_
    refine h4.put_changed (Nat.lt_of_le_of_lt z3.changed (of_decide_eq_true (by kernel_rfl))) fun H5 h5 m5 => ?_
    wtm_at "go"
    refine i_methK h5.ob stF_no_note ?_
    wtm_at "go"
    refine i_fldK h5.ob T.c_Store T.n_Store_heap stF_heap ?_
    wtm_at "go"
    refine i_ixL h5.heap (atI_lastD hr2.heap) ?_
    wtm_at "go"
    refine ⟨a, S, _, _, _, _, .put ((M.r3 S.cf).heap.getLastD 0) M.done, rfl, h5, ⟨rfl, rfl, rfl⟩, Nat.lt_of_le_of_lt z3.ev (of_decide_eq_true (by kernel_rfl)), fun H6 h6' m6 => ?_⟩
    have h6 : StoreAt K a S (M.r5 S.cf) H6 := h6'
    have mv6 := (m4.trans m5).trans m6
    clear h6' h5 m5 m6 h4 m4
    obtain ⟨j1, j2, j3, j4, j5, j6, j7⟩ := Sto.r5_kept M S.cf
    wtm_at "go"
    refine i_fldK h6.ob T.c_Store T.n_Store_settings stF_settings ?_
    refine h6.set.rd T.c_Settings T.n_Settings_keep setF_keep ?_
    wtm_at "go"
    refine i_fldK h6.ob T.c_Store T.n_Store_packing stF_packing ?_
    obtain ⟨dxp2, q2, hq2, ep2, hl2⟩ := h6.pack.ob
    refine i_methK ep2 packF_no_start ?_
    wtm_at "go"
    refine i_fldK h6.ob T.c_Store T.n_Store_oldest stF_oldest ?_
    wtm_at "go"
    rw [j2]
    refine ⟨a.pp, a.ts, a.ls, S, (M.oldest + 1).toNat, by rw [Int.toNat_of_nonneg (by omega)]; rfl, h6.pack, fun H7 s7 => ?_⟩
    wtm_at "go"
    have h7 := h6.same s7
    have mv7 := mv6.trans (Mv.same s7)
    refine i_joinS (fun H' => StoreAt K a S (M.r6 S.cf) H' ∧ Mv a H a H') (fun D' hD => ?_) ?_
    · by_cases hc : M.done - S.keep + 1 = S.at (M.oldest + 1).toNat
      · rw [decide_eq_true hc]
        refine iteT ?_
        have hc2 : M.done - S.keep + 1 = S.cf.start ((M.r5 S.cf).oldest + 1) := by rw [j2]; exact hc
        obtain ⟨f1, f2⟩ := hr2.fin hc2
        wtm_at "go"
        refine i_methK h7.ob stF_no_end_page ?_
        wtm_at "go"
        refine ⟨a, S, _, 600200, rfl, h7, z5, of_decide_eq_true (by kernel_rfl), by rw [j2]; exact ho, ?_, by rw [j4]; exact hr2.heap, f1, f2, fun H8 h8 m8 => ?_⟩
        · have := hr2.new5
          exact Nat.le_trans (show (M.r5 S.cf).newest.toNat + 2 ≤ 2 ^ 22 by omega) (Nat.pow_le_pow_right (by decide) (by decide))
        · wtm_at "go"
          refine hD H8 ⟨?_, mv7.trans m8⟩
          unfold Sto.r6
          rw [if_pos (show M.done - S.cf.keep + 1 = S.cf.start ((M.r5 S.cf).oldest + 1) from hc2)]
          exact h8
      · rw [decide_eq_false hc]
        refine iteF ?_
        wtm_at "go"
        refine hD H7 ⟨?_, mv7⟩
        unfold Sto.r6
        rw [j2, if_neg (show ¬ M.done - S.cf.keep + 1 = S.cf.start (M.oldest + 1) from hc)]
        exact h7
    clear h7 mv7 h6 mv6
    rintro H8 ⟨h8, m8⟩
    wtm_at "go"
    refine i_augK h8.ob T.c_Store T.n_Store_done stF_done ?_
    wtm_at "go"
    refine h8.fin_done fun H9 h9' m9 => ?_
    have h9 : StoreAt K a S (M.r7 S.cf) H9 := h9'
    wtm_at "go"
    refine i_fldK h9.ob T.c_Store T.n_Store_done stF_done ?_
    wtm_at "go"
    refine i_fldK h9.ob T.c_Store T.n_Store_settings stF_settings ?_
    refine h9.set.rd T.c_Settings T.n_Settings_every setF_every ?_
    refine i_rI (show (0 : Int) < S.every by omega) ?_
    wtm_at "go"
    by_cases hc : (M.r7 S.cf).done % S.every = 0
    · rw [decide_eq_true hc]
      refine iteT ?_
      have z7 : Sto.Sz 1900000 (M.r7 S.cf) := ⟨z6.heap, z6.log, z6.waiting, z6.free, z6.nodes, z6.changed, z6.ev⟩
      wtm_at "go"
      refine i_methK h9.ob stF_no_checkpoint ?_
      wtm_at "go"
      refine ⟨a, S, _, 1900000, rfl, h9, z7, of_decide_eq_true (by kernel_rfl), fun H10 a' h10 m10 => ?_⟩
      wtm_at "go"
      refine k H10 a' ?_ ((m8.trans m9).trans m10)
      rw [hk, if_pos (show (M.r7 S.cf).done % S.cf.every = 0 from hc)]
      exact h10
    · rw [decide_eq_false hc]
      refine iteF ?_
      wtm_at "go"
      refine k H9 a ?_ (m8.trans m9)
      rw [hk, if_neg (show ¬ (M.r7 S.cf).done % S.cf.every = 0 from hc)]
      exact h9
def sp_Store_step (K : PySem.W.Frag) : Sp := fun vs H Q _ => ∃ (a : SA) (S : Sett) (M : Sto), vs = [.ref a.p] ∧ StoreAt K a S M H ∧ ({ M with ev := [] } : Sto).Rdy S ∧ ∀ H3 a' l H4 ws, StoreAt K a' S (M.step S.cf) H3 → Mv a H a' H3 → H3 l = none → Same H3 H4 → H4 l = some (.lst ws) → EvsAt H4 ws (M.step S.cf).ev → Q (.ref l) H4
theorem O_Store_step (T : Tx K mg) : MF P w K mg base CX0 (He.ga K "Store") "step" ["self"] 5 (sp_Store_step K) := by
  have O_Store_put_row := O_Store_put_row (P := P) (w := w) (base := base) T
  obtain ⟨fd, F⟩ := T.F_Store_step
  refine ⟨_, fd, ?_, T.m_Store_step, F.bindsN fun _ _ _ _ _ _ us hl => match us, hl with | [_], _ => rfl⟩
  refine F.ok sc_Store_step (fun vs H Q E h => ?_) (fun cdv A outer s H vs Q E hr h => ?_)
  · first | (obtain ⟨rfl, _⟩ := h; rfl) | (obtain ⟨_, rfl, _⟩ := h; rfl) | (obtain ⟨_, _, rfl, _⟩ := h; rfl) | (obtain ⟨_, _, _, rfl, _⟩ := h; rfl) | (obtain ⟨_, _, _, _, rfl, _⟩ := h; rfl) | (obtain ⟨_, _, _, _, _, rfl, _⟩ := h; rfl) | (obtain ⟨_, _, _, _, _, _, rfl, _⟩ := h; rfl) | (obtain ⟨_, _, _, _, _, _, _, rfl, _⟩ := h; rfl) | (obtain ⟨_, _, _, _, _, _, _, _, rfl, _⟩ := h; rfl) | (obtain ⟨_, _, _, _, _, _, _, _, _, rfl, _⟩ := h; rfl) | (obtain ⟨_, _, _, _, _, _, _, _, _, _, rfl, _⟩ := h; rfl) | (obtain ⟨_, _, _, _, _, _, _, _, _, _, _, rfl, _⟩ := h; rfl) | (obtain ⟨_, _, _, _, _, _, _, _, _, _, _, _, rfl, _⟩ := h; rfl) | (obtain ⟨_, _, _, _, _, _, _, _, _, _, _, _, _, rfl, _⟩ := h; rfl) | (obtain ⟨_, _, _, _, _, _, _, _, _, _, _, _, _, _, rfl, _⟩ := h; rfl) | (obtain ⟨_, _, _, _, _, _, _, _, _, _, _, _, _, _, _, rfl, _⟩ := h; rfl) | (obtain ⟨_, _, _, _, _, _, _, _, _, _, _, _, _, _, _, _, rfl, _⟩ := h; rfl) | (obtain ⟨_, _, _, _, _, _, _, _, _, _, _, _, _, _, _, _, _, rfl, _⟩ := h; rfl) | (obtain ⟨_, _, _, _, _, _, _, _, _, _, _, _, _, _, _, _, _, _, rfl, _⟩ := h; rfl) | (obtain ⟨_, _, _, _, _, _, _, _, _, _, _, _, _, _, _, _, _, _, _, rfl, _⟩ := h; rfl) | (obtain ⟨_, _, _, _, _, _, _, _, _, _, _, _, _, _, _, _, _, _, _, _, rfl, _⟩ := h; rfl) | (obtain ⟨_, _, _, _, _, _, _, _, _, _, _, _, _, _, _, _, _, _, _, _, _, rfl, _⟩ := h; rfl)
  · obtain ⟨a, S, M, rfl, hs, hr2, k⟩ := h
    refine ⟨_, PSs.nox (pss_cons (ps_fld (pv 0) (pe_lst pa_nil) rfl)
  (pss_cons (ps_expr (pm0 O_Store_put_row T.c_Store hr pass0 (pv 0)))
  (pss_one (ps_ret (pe_callTy call_listQ (by rfl) T.f_list (by decide +kernel) (pa_cons (pe_fld (pv 0) rfl) pa_nil)))))), ?_⟩
    wtm_at "go"
    refine i_lstK (of_decide_eq_true (by kernel_rfl)) fun l1 H1 nl1 hl1 s1 => ?_
    wtm_at "go"
    refine hs.nw_ev s1 nl1 hl1 T.c_Store T.n_Store_events fun a2 H2 h2 m2 => ?_
    wtm_at "go"
    rw [show V.ref a.p = V.ref a2.p by rw [m2.p]]
    refine i_methK h2.ob stF_no_put_row ?_
    wtm_at "go"
    refine ⟨a2, S, _, rfl, h2, hr2, fun H3 a3 h3' m3 => ?_⟩
    have h3 : StoreAt K a3 S (M.step S.cf) H3 := h3'
    wtm_at "go"
    rw [show V.ref a2.p = V.ref a3.p by rw [m3.p]]
    refine i_fldK h3.ob T.c_Store T.n_Store_events stF_events ?_
    wtm_at "go"
    obtain ⟨ws, e1, e2⟩ := h3.ev
    refine q_listL e1 fun l H4 nl hl s4 => ?_
    exact k H3 a3 l H4 ws h3 (m2.trans m3) nl s4 hl (e2.keep (TupKeep.of_same s4))
end
end K90


namespace K90
open PySem PySem.Spec PyProof.Rows L2 KR
local macro_rules | `(tactic| wtm_at "go1") => `(tactic| first
  | (with_reducible refine i_seq ?_) | ((with_reducible refine' i_var ?k1 ?_); (case k1 => exact rfl)) | (with_reducible refine i_c ?_) | (with_reducible refine i_asg ?_) | (with_reducible refine i_name ?_)
  | (with_reducible refine i_ret ?_) | (with_reducible refine i_retN ?_) | (with_reducible refine i_drop ?_) | (with_reducible refine i_next ?_) | (with_reducible refine i_op ?_) | (with_reducible refine i_rI0 ?_)
  | (with_reducible refine i_fld ?_) | (with_reducible refine i_setf ?_) | (with_reducible refine i_augf ?_) | (with_reducible refine i_meth ?_) | (with_reducible refine i_cons ?_) | (with_reducible refine i_nil ?_)
  | (with_reducible refine i_call ?_) | (with_reducible refine i_cb ?_) | (with_reducible refine i_test ?_) | (with_reducible refine i_tB ?_) | (with_reducible refine i_bl ?_) | (with_reducible refine i_not ?_)
  | (with_reducible refine i_if ?_) | (with_reducible refine i_ifE ?_) | (with_reducible refine i_andV ?_) | (with_reducible refine i_orV ?_) | (with_reducible refine i_notV ?_) | (with_reducible refine i_and ?_) | (with_reducible refine i_or ?_)
  | (with_reducible refine i_rEqI ?_) | (with_reducible refine i_rNeI ?_) | (with_reducible refine i_un ?_) | (with_reducible refine i_rU ?_) | (with_reducible refine i_chain ?_) | (with_reducible refine i_tpar ?_) | (with_reducible refine i_par ?_) | (with_reducible refine i_tpar3 ?_) | (with_reducible refine i_par3 ?_)
  | ((with_reducible refine' i_aug ?k1 ?_); (case k1 => exact rfl)) | (with_reducible refine i_ipI ?_) | (with_reducible refine i_tup ?_) | (with_reducible refine i_lst ?_) | (with_reducible refine i_bm ?_) | (with_reducible refine i_bm0 ?_)
  | (with_reducible refine i_for ?_) | (with_reducible refine i_list ?_) | (with_reducible refine i_rng1 ?_) | (with_reducible refine i_keys ?_) | (with_reducible refine i_lc ?_) | (with_reducible refine i_yes ?_) | (with_reducible refine i_dput ?_)
  | (with_reducible refine i_dget ?_) | (with_reducible refine i_din ?_) | (with_reducible refine i_dnotin ?_) | (with_reducible refine i_dget1 ?_) | (with_reducible refine i_dget2 ?_) | (with_reducible refine i_dpop2 ?_)
  | (with_reducible refine q_max2 ?_) | (with_reducible refine q_min2 ?_) | (with_reducible refine q_notN ?_) | (with_reducible refine q_isN ?_) | (with_reducible refine i_gtup ?_) | (with_reducible refine i_gcons ?_) | (with_reducible refine i_gnil ?_) | (with_reducible refine i_make ?_) | (with_reducible refine i_dnewK ?_) | (with_reducible refine i_dnewT ?_)
  | (with_reducible refine q_int1 ?_) | (with_reducible refine q_int1b ?_) | (with_reducible refine i_sl ?_) | (with_reducible refine i_npart ?_) | (with_reducible refine i_part ?_) | (with_reducible refine i_pint ?_) | (with_reducible refine i_pcons ?_) | (with_reducible refine i_pnil ?_) | (with_reducible refine i_gsub ?_) | (with_reducible refine i_makeKw ?_)
  | (with_reducible refine i_rAdd ?_) | (with_reducible refine i_rSub ?_) | (with_reducible refine i_isN ?_))
local macro_rules | `(tactic| wtm_at "go") => `(tactic| repeat (wtm_at "go1"))

theorem dpall_eqv : ∀ xs ys : List Int, PyData.eqvAll (xs.map PyData.int) (ys.map PyData.int) = decide (xs = ys)
  | [], [] => by simp [PyData.eqvAll]
  | [], y :: r => by simp [PyData.eqvAll]
  | x :: r, [] => by simp [PyData.eqvAll]
  | x :: r, y :: t => by
    rw [List.map_cons, List.map_cons, PyData.eqvAll, dpall_eqv r t]
    show ((x == y) && decide (r = t)) = _
    rw [beq_dec]
    simp [Bool.decide_and]
theorem shaped_tints (xs : List Int) : SeqAt.shaped (.tuple (xs.map PyData.int)) = true := by
  unfold SeqAt.shaped
  rw [PyData.canLay0, lay_ints, PyData.depth, depth_ints]
  rfl
theorem q_eqInts {K : PySem.W.Frag} {H : Hp} {Q : VK} {a b : Addr} {xs ys : List Int} (h1 : H a = some (.tup (xs.map V.int))) (h2 : H b = some (.tup (ys.map V.int))) (k : Q (.bl (decide (xs = ys))) H) : rEqD K (.ref a) (.ref b) H Q :=
  ⟨_, _, .tup (SqT.of h1) (dpall_ints xs), .tup (SqT.of h2) (dpall_ints ys), shaped_tints xs, shaped_tints ys, by rw [PyData.eqv, dpall_eqv]; exact k⟩
theorem SetAt.same {K : PySem.W.Frag} {H H' : Hp} {p t : Addr} {S : Sett} (x : SetAt K p t S H) (s : Same H H') : SetAt K p t S H' := x.of (fun o e => s _ o e) (fun o e => s _ o e)
theorem PackAt.same {K : PySem.W.Frag} {H H' : Hp} {p t l : Addr} {S : Sett} (x : PackAt K p t l S H) (s : Same H H') : PackAt K p t l S H' := x.of (fun o e => s _ o e) (fun o e => s _ o e) (fun o e => s _ o e)
/-! ### two stores, side by side -/
structure Two (K : PySem.W.Frag) (a b : SA) (S S' : Sett) (M M' : Sto) (H : Hp) : Prop where
  sa : StoreAt K a S M H
  sb : StoreAt K b S' M' H
  ab : ∀ x ∈ a.foot, x ∉ b.dom
  ba : ∀ x ∈ b.foot, x ∉ a.dom
theorem mem_foot {a : SA} {x : Addr} (h : x ∈ a.foot) : x ∈ a.dom := by rw [SA.dom_eq]; exact List.mem_append_left _ h
section
variable {K : PySem.W.Frag} {a b a' : SA} {S S' : Sett} {M M' M1 : Sto} {H H' : Hp}
theorem Two.swap (t : Two K a b S S' M M' H) : Two K b a S' S M' M H := ⟨t.sb, t.sa, t.ba, t.ab⟩
theorem Two.same (t : Two K a b S S' M M' H) (s : Same H H') : Two K a b S S' M M' H' := ⟨t.sa.same s, t.sb.same s, t.ab, t.ba⟩
theorem Two.left (t : Two K a b S S' M M' H) (h : StoreAt K a' S M1 H') (m : Mv a H a' H') : Two K a' b S S' M1 M' H' := by
  refine ⟨h, t.sb.apart (fun x o e hx => m.keep x o e fun z => t.ab x z hx) m.tups, fun x hx hb => ?_, fun x hx hb => ?_⟩
  · rcases m.ext x hx with z | z
    · exact t.ab x z hb
    · exact t.sb.fresh z hb
  · rw [SA.dom_eq] at hb
    rcases List.mem_append.mp hb with z | z
    · rcases m.ext x z with z | z
      · exact t.ba x hx (mem_foot z)
      · exact t.sb.fresh z (mem_foot hx)
    · rw [m.supp] at z
      exact t.ba x hx (by rw [SA.dom_eq]; exact List.mem_append_right _ z)
theorem Two.right {b' : SA} (t : Two K a b S S' M M' H) (h : StoreAt K b' S' M1 H') (m : Mv b H b' H') : Two K a b' S S' M M1 H' := (t.swap.left h m).swap
/-- the store's parts are new over H0 -/
def NewTo (a : SA) (H : Hp) : Prop := ∀ x ∈ a.foot, H x = none
theorem NewTo.mv {H0 : Hp} (n : NewTo a H0) (s : Same H0 H) (m : Mv a H a' H') : NewTo a' H0 := fun x hx => by
  rcases m.ext x hx with z | z
  · exact n x z
  · exact s.free z
theorem NewTo.sm {H0 : Hp} (n : NewTo a H0) (s : Same H0 H) (m : Mv a H a' H') : Same H0 H' := fun x o e => m.keep x o (s x o e) fun z => by rw [n x z] at e; cases e
theorem made_same {p : Addr} {H1 H2 : Hp} (hx : H p = none) (s : Same H H1) (bt : But p H1 H2) : Same H H2 := fun x o e => bt x o (s x o e) (ne_of_none e hx)
theorem made_new {p ps ts : Addr} {H1 H2 : Hp} (hx : H p = none) (s : Same H H1) (hs : StoreAt K a S M H2) (ep : a.p = p) (eps : a.ps = ps) (ets : a.ts = ts) (fr : ∀ b ∈ a.dom, b = p ∨ b = ps ∨ b = ts ∨ H1 b = none) : NewTo a H := fun x hx2 => by
  rcases fr x (mem_foot hx2) with z | z | z | z
  · rw [z]; exact hx
  · have hn := hs.nd
    rw [SA.dom_eq] at hn
    exact absurd ⟨by rw [z, ← eps] at hx2; exact hx2, by simp [SA.supp]⟩ (fun w : a.ps ∈ a.foot ∧ a.ps ∈ a.supp => (List.nodup_append.mp hn).2.2 _ w.1 _ w.2 rfl)
  · have hn := hs.nd
    rw [SA.dom_eq] at hn
    exact absurd ⟨by rw [z, ← ets] at hx2; exact hx2, by simp [SA.supp]⟩ (fun w : a.ts ∈ a.foot ∧ a.ts ∈ a.supp => (List.nodup_append.mp hn).2.2 _ w.1 _ w.2 rfl)
  · exact s.free z
theorem Two.made {p ps ts : Addr} {H0 H1 H2 : Hp} (ha : StoreAt K a S M H) (na : NewTo a H0) (s0 : SetAt K ps ts S' H0) (hx : H p = none) (s : Same H H1) (hs : StoreAt K b S' M' H2) (ep : b.p = p) (eps : b.ps = ps) (ets : b.ts = ts) (fr : ∀ x ∈ b.dom, x = p ∨ x = ps ∨ x = ts ∨ H1 x = none) (bt : But p H1 H2) : Two K a b S S' M M' H2 := by
  have nb := made_new hx s hs ep eps ets fr
  obtain ⟨dxs, es⟩ := s0.ob
  refine ⟨ha.same (made_same hx s bt), hs, fun x h1 h2 => ?_, fun x h1 h2 => ?_⟩
  · rcases fr x h2 with z | z | z | z
    · exact ha.fresh hx (by rw [← z]; exact mem_foot h1)
    · have := na x h1
      rw [z, es] at this; cases this
    · have := na x h1
      rw [z, s0.tp] at this; cases this
    · exact ha.fresh (s.free z) (mem_foot h1)
  · exact ha.fresh (nb x h1) h2
end
section
variable {P : Program} {w : World} {K : PySem.W.Frag} {mg : Str → Option Value} {base : Heap}
def sp_rows_alike (K : PySem.W.Frag) : Sp := fun vs H Q _ => ∃ (p1 p2 t1 t2 : Addr) (S1 S2 : Sett), vs = [.ref p1, .ref p2] ∧ SetAt K p1 t1 S1 H ∧ SetAt K p2 t2 S2 H ∧ ∀ H' b, Same H H' → (b = true ↔ ∀ k : Nat, S1.at k = S2.at k) → Q (.bl b) H'
theorem O_rows_alike (T : Tx K mg) : GF P w K mg base CX0 "rows_alike" ["one", "other"] 5 (sp_rows_alike K) := by
  have O_Packing_init := O_Packing_init (P := P) (w := w) (base := base) T
  have O_Packing_start := O_Packing_start (P := P) (w := w) (base := base) T
  obtain ⟨fd, F⟩ := T.F_rows_alike
  refine ⟨_, fd, ?_, T.g_rows_alike, F.kp, F.bindsN fun _ _ _ _ _ _ us hl => match us, hl with | [_, _], _ => rfl⟩
  refine F.ok sc_rows_alike (fun vs H Q E h => ?_) (fun cdv A outer s H vs Q E hr h => ?_)
  · first | (obtain ⟨rfl, _⟩ := h; rfl) | (obtain ⟨_, rfl, _⟩ := h; rfl) | (obtain ⟨_, _, rfl, _⟩ := h; rfl) | (obtain ⟨_, _, _, rfl, _⟩ := h; rfl) | (obtain ⟨_, _, _, _, rfl, _⟩ := h; rfl) | (obtain ⟨_, _, _, _, _, rfl, _⟩ := h; rfl) | (obtain ⟨_, _, _, _, _, _, rfl, _⟩ := h; rfl) | (obtain ⟨_, _, _, _, _, _, _, rfl, _⟩ := h; rfl) | (obtain ⟨_, _, _, _, _, _, _, _, rfl, _⟩ := h; rfl) | (obtain ⟨_, _, _, _, _, _, _, _, _, rfl, _⟩ := h; rfl) | (obtain ⟨_, _, _, _, _, _, _, _, _, _, rfl, _⟩ := h; rfl) | (obtain ⟨_, _, _, _, _, _, _, _, _, _, _, rfl, _⟩ := h; rfl) | (obtain ⟨_, _, _, _, _, _, _, _, _, _, _, _, rfl, _⟩ := h; rfl) | (obtain ⟨_, _, _, _, _, _, _, _, _, _, _, _, _, rfl, _⟩ := h; rfl) | (obtain ⟨_, _, _, _, _, _, _, _, _, _, _, _, _, _, rfl, _⟩ := h; rfl) | (obtain ⟨_, _, _, _, _, _, _, _, _, _, _, _, _, _, _, rfl, _⟩ := h; rfl) | (obtain ⟨_, _, _, _, _, _, _, _, _, _, _, _, _, _, _, _, rfl, _⟩ := h; rfl) | (obtain ⟨_, _, _, _, _, _, _, _, _, _, _, _, _, _, _, _, _, rfl, _⟩ := h; rfl) | (obtain ⟨_, _, _, _, _, _, _, _, _, _, _, _, _, _, _, _, _, _, rfl, _⟩ := h; rfl) | (obtain ⟨_, _, _, _, _, _, _, _, _, _, _, _, _, _, _, _, _, _, _, rfl, _⟩ := h; rfl) | (obtain ⟨_, _, _, _, _, _, _, _, _, _, _, _, _, _, _, _, _, _, _, _, rfl, _⟩ := h; rfl) | (obtain ⟨_, _, _, _, _, _, _, _, _, _, _, _, _, _, _, _, _, _, _, _, _, rfl, _⟩ := h; rfl)
  · obtain ⟨p1, p2, t1, t2, S1, S2, rfl, h1, h2, k⟩ := h
    refine ⟨_, PSs.nox (pss_cons (ps_asg (pe_tup (pa_cons (pk O_Packing_init hr pass0 (pa_cons (pv 0) pa_nil)) (pa_cons (pk O_Packing_init hr pass0 (pa_cons (pv 1) pa_nil)) pa_nil))) (pg_tup rfl (pgs_cons (pg_name (i := 2) sc_rows_alike.nd rfl (Or.inr rfl)) (pgs_cons (pg_name (i := 3) sc_rows_alike.nd rfl (Or.inr rfl)) pgs_nil))))
  (pss_cons (ps_set (i := 4) sc_rows_alike.nd rfl (Or.inl rfl) (pe_op op_add (pe_op op_add (pe_callB (call_max2Q rfl) (by rfl) T.f_max (by decide +kernel) (pa_cons (pe_fld (pv 2) rfl) (pa_cons (pe_fld (pv 3) rfl) pa_nil))) (pe_fld (pv 2) rfl)) (pe_fld (pv 3) rfl)))
  (pss_one (ps_ret (pe_callB (cr_all rfl) (by rfl) T.f_all (by decide +kernel) (pa_cons (pe_lc (own := [("page", 5)]) (g := gName 5) (tt := tYes) rfl sc_rows_alike.nd (pi_range1 rfl T.f_range (pa_cons (pe_op op_add (pv 4) pe_int) pa_nil)) (blkOk_by (own := [("page", 5)]) (N := ["one", "other", "first", "second", "many", "page"]) (sc := defScope s_rows_alike) (by decide +kernel)) (fun _ _ _ _ _ => by exact (pg_name (i := 5) sc_rows_alike.nd rfl (Or.inl rfl))) (fun _ _ _ _ _ => by exact pts_nil) (fun _ _ _ _ _ => by exact (pe_cmpR op_eq (pm O_Packing_start T.c_Packing hr pass0 (pv 2) (pa_cons (pv 5) pa_nil)) (pm O_Packing_start T.c_Packing hr pass0 (pv 3) (pa_cons (pv 5) pa_nil)) (nomark _)))) pa_nil)))))), ?_⟩
    wtm_at "go"
    refine i_makeK fun x1 dx1 H1 hx1 hd1 e1 s1 => ?_
    refine ⟨x1, dx1, p1, t1, S1, rfl, e1, h1.same s1, fun H2 l1 k2 b2 n2 => ⟨rfl, ?_⟩⟩
    have s2 : Same H H2 := made_same hx1 s1 b2
    wtm_at "go"
    refine i_makeK fun x3 dx3 H3 hx3 hd3 e3 s3 => ?_
    refine ⟨x3, dx3, p2, t2, S2, rfl, e3, (h2.same s2).same s3, fun H4 l4 k4 b4 n4 => ⟨rfl, ?_⟩⟩
    have s4 : Same H2 H4 := made_same hx3 s3 b4
    have k2' := k2.same s4
    have sm4 : Same H H4 := s2.trans s4
    wtm_at "go"
    refine i_tupK (of_decide_eq_true (by kernel_rfl)) fun b5 H5 nb5 hb5 s5 => ?_
    wtm_at "go"
    refine i_gtupK hb5 rfl ?_
    wtm_at "go"
    have k5 := k2'.same s5
    have k6 := k4.same s5
    have sm5 := sm4.trans s5
    obtain ⟨dxa, qa, ha, ea, la⟩ := k5.ob
    obtain ⟨dxb, qb, hb, eb, lb⟩ := k6.ob
    refine i_fldK ea T.c_Packing T.n_Packing_first packF_first ?_
    wtm_at "go"
    refine i_fldK eb T.c_Packing T.n_Packing_first packF_first ?_
    wtm_at "go"
    refine i_fldK ea T.c_Packing T.n_Packing_pages packF_pages ?_
    wtm_at "go"
    refine i_fldK eb T.c_Packing T.n_Packing_pages packF_pages ?_
    wtm_at "go"
    have a1 := ha.lt
    have a2 := ha.n6
    have b1 := hb.lt
    have b2 := hb.n6
    obtain ⟨many, hmany⟩ : ∃ m : Nat, (if (qb.i : Int) > (qa.i : Int) then (qb.i : Int) else (qa.i : Int)) + ((qa.n : Int) - (qa.i : Int)) + ((qb.n : Int) - (qb.i : Int)) = (m : Int) := ⟨((if (qb.i : Int) > (qa.i : Int) then (qb.i : Int) else (qa.i : Int)) + ((qa.n : Int) - (qa.i : Int)) + ((qb.n : Int) - (qb.i : Int))).toNat, by split <;> omega⟩
    have hmb : many ≤ 20 := by split at hmany <;> omega
    have hmx : max qa.i qb.i + (qa.n - qa.i) + (qb.n - qb.i) ≤ many := by split at hmany <;> omega
    rw [hmany]
    refine i_rngK (by omega) (by omega) ?_
    refine i_lcK walk_range (fun D j H' => Same H5 H' ∧ H5 D = none ∧ H' D = some (.lst (((List.range j).map fun i => decide (S1.at i = S2.at i)).map V.bl))) ?_ (fun _ _ _ _ _ => True.intro) ?_ ?_
    · intro D H6 nD hD sD
      exact ⟨sD, nD, hD⟩
    · rintro D j x H6 H6' hj ⟨s6, nD, hD⟩ ⟨e1, ex⟩
      have e3 : x = V.int (j : Int) := by
        rw [ex]
        show V.int (0 + (j : Int)) = _
        rw [Int.zero_add]
      clear ex
      subst e1 e3
      wtm_at "go"
      refine ⟨rfl, ?_⟩
      wtm_at "go"
      refine iteT ?_
      wtm_at "go"
      refine i_methK (s6 _ _ ea) packF_no_start ?_
      wtm_at "go"
      refine ⟨x1, t1, l1, S1, j, rfl, k5.same s6, fun H7 s7 => ?_⟩
      wtm_at "go"
      refine i_methK (s7 _ _ (s6 _ _ eb)) packF_no_start ?_
      wtm_at "go"
      refine ⟨x3, t2, l4, S2, j, rfl, (k6.same s6).same s7, fun H8 s8 => ?_⟩
      wtm_at "go"
      have hD8 := s8 _ _ (s7 _ _ hD)
      refine ⟨_, hD8, ?_, ?_⟩
      · simp [sizeLine]
        omega
      · refine ⟨fun c o ec => ?_, nD, ?_⟩
        · rw [upd_ne (ne_of_none ec nD)]
          exact s8 _ _ (s7 _ _ (s6 _ _ ec))
        · rw [upd_same, List.range_succ]
          simp
    · rintro D H6 ⟨s6, nD, hD⟩
      wtm_at "go"
      refine ⟨D, _, rfl, SqL.of hD, k H6 _ (sm5.trans s6) ?_⟩
      rw [List.all_map, List.all_eq_true]
      refine ⟨fun h => ?_, fun h x _ => by simp [h x]⟩
      refine Sett.at_alike ha.lt ha.eq hb.lt hb.eq fun j hj => ?_
      have := h j (List.mem_range.mpr (by omega))
      simpa using this
def sp_are_alike (K : PySem.W.Frag) : Sp := fun vs H Q _ => ∃ (p1 p2 t1 t2 : Addr) (S1 S2 : Sett), vs = [.ref p1, .ref p2] ∧ SetAt K p1 t1 S1 H ∧ SetAt K p2 t2 S2 H ∧ ∀ H' b, Same H H' → (b = true ↔ Alike S1 S2) → Q (.bl b) H'
theorem O_are_alike (T : Tx K mg) : GF P w K mg base CX0 "are_alike" ["one", "other"] 6 (sp_are_alike K) := by
  have O_rows_alike := O_rows_alike (P := P) (w := w) (base := base) T
  obtain ⟨fd, F⟩ := T.F_are_alike
  refine ⟨_, fd, ?_, T.g_are_alike, F.kp, F.bindsN fun _ _ _ _ _ _ us hl => match us, hl with | [_, _], _ => rfl⟩
  refine F.ok sc_are_alike (fun vs H Q E h => ?_) (fun cdv A outer s H vs Q E hr h => ?_)
  · first | (obtain ⟨rfl, _⟩ := h; rfl) | (obtain ⟨_, rfl, _⟩ := h; rfl) | (obtain ⟨_, _, rfl, _⟩ := h; rfl) | (obtain ⟨_, _, _, rfl, _⟩ := h; rfl) | (obtain ⟨_, _, _, _, rfl, _⟩ := h; rfl) | (obtain ⟨_, _, _, _, _, rfl, _⟩ := h; rfl) | (obtain ⟨_, _, _, _, _, _, rfl, _⟩ := h; rfl) | (obtain ⟨_, _, _, _, _, _, _, rfl, _⟩ := h; rfl) | (obtain ⟨_, _, _, _, _, _, _, _, rfl, _⟩ := h; rfl) | (obtain ⟨_, _, _, _, _, _, _, _, _, rfl, _⟩ := h; rfl) | (obtain ⟨_, _, _, _, _, _, _, _, _, _, rfl, _⟩ := h; rfl) | (obtain ⟨_, _, _, _, _, _, _, _, _, _, _, rfl, _⟩ := h; rfl) | (obtain ⟨_, _, _, _, _, _, _, _, _, _, _, _, rfl, _⟩ := h; rfl) | (obtain ⟨_, _, _, _, _, _, _, _, _, _, _, _, _, rfl, _⟩ := h; rfl) | (obtain ⟨_, _, _, _, _, _, _, _, _, _, _, _, _, _, rfl, _⟩ := h; rfl) | (obtain ⟨_, _, _, _, _, _, _, _, _, _, _, _, _, _, _, rfl, _⟩ := h; rfl) | (obtain ⟨_, _, _, _, _, _, _, _, _, _, _, _, _, _, _, _, rfl, _⟩ := h; rfl) | (obtain ⟨_, _, _, _, _, _, _, _, _, _, _, _, _, _, _, _, _, rfl, _⟩ := h; rfl) | (obtain ⟨_, _, _, _, _, _, _, _, _, _, _, _, _, _, _, _, _, _, rfl, _⟩ := h; rfl) | (obtain ⟨_, _, _, _, _, _, _, _, _, _, _, _, _, _, _, _, _, _, _, rfl, _⟩ := h; rfl) | (obtain ⟨_, _, _, _, _, _, _, _, _, _, _, _, _, _, _, _, _, _, _, _, rfl, _⟩ := h; rfl) | (obtain ⟨_, _, _, _, _, _, _, _, _, _, _, _, _, _, _, _, _, _, _, _, _, rfl, _⟩ := h; rfl)
  · obtain ⟨p1, p2, t1, t2, S1, S2, rfl, h1, h2, k⟩ := h
    refine ⟨_, PSs.nox (pss_cons (ps_set (i := 2) sc_are_alike.nd rfl (Or.inl rfl) (pe_tup (pa_cons (pe_fld (pv 0) rfl) (pa_cons (pe_fld (pv 0) rfl) (pa_cons (pe_fld (pv 0) rfl) (pa_cons (pe_callB (call_min2Q rfl) (by rfl) T.f_min (by decide +kernel) (pa_cons (pe_fld (pv 0) rfl) (pa_cons (pe_fld (pv 0) rfl) pa_nil))) pa_nil))))))
  (pss_one (ps_ret (pe_and (pe_cmpR (op_eqD hr.units) (pv 2) (pe_tup (pa_cons (pe_fld (pv 1) rfl) (pa_cons (pe_fld (pv 1) rfl) (pa_cons (pe_fld (pv 1) rfl) (pa_cons (pe_callB (call_min2Q rfl) (by rfl) T.f_min (by decide +kernel) (pa_cons (pe_fld (pv 1) rfl) (pa_cons (pe_fld (pv 1) rfl) pa_nil))) pa_nil))))) (nomark _)) (pe_one (pg O_rows_alike hr pass0 (pa_cons (pv 0) (pa_cons (pv 1) pa_nil)))))))), ?_⟩
    wtm_at "go"
    refine h1.rd T.c_Settings T.n_Settings_fanout setF_fanout ?_
    wtm_at "go"
    refine h1.rd T.c_Settings T.n_Settings_keep setF_keep ?_
    wtm_at "go"
    refine h1.rd T.c_Settings T.n_Settings_every setF_every ?_
    wtm_at "go"
    refine h1.rd T.c_Settings T.n_Settings_records setF_records ?_
    wtm_at "go"
    refine h1.rd T.c_Settings T.n_Settings_every setF_every ?_
    wtm_at "go"
    refine i_tupK (of_decide_eq_true (by kernel_rfl)) fun b1 H1 nb1 hb1 s1 => ?_
    have h2' := h2.same s1
    wtm_at "go"
    refine h2'.rd T.c_Settings T.n_Settings_fanout setF_fanout ?_
    wtm_at "go"
    refine h2'.rd T.c_Settings T.n_Settings_keep setF_keep ?_
    wtm_at "go"
    refine h2'.rd T.c_Settings T.n_Settings_every setF_every ?_
    wtm_at "go"
    refine h2'.rd T.c_Settings T.n_Settings_records setF_records ?_
    wtm_at "go"
    refine h2'.rd T.c_Settings T.n_Settings_every setF_every ?_
    wtm_at "go"
    refine i_tupK (of_decide_eq_true (by kernel_rfl)) fun b2 H2 nb2 hb2 s2 => ?_
    wtm_at "go"
    refine q_eqInts (xs := [S1.fanout, S1.keep, S1.every, mn S1.recs S1.every]) (ys := [S2.fanout, S2.keep, S2.every, mn S2.recs S2.every]) (s2 _ _ hb1) hb2 ?_
    wtm_at "go"
    by_cases hc : [S1.fanout, S1.keep, S1.every, mn S1.recs S1.every] = [S2.fanout, S2.keep, S2.every, mn S2.recs S2.every]
    · rw [decide_eq_true hc]
      refine iteT ?_
      wtm_at "go"
      refine ⟨p1, p2, t1, t2, S1, S2, rfl, (h1.same s1).same s2, h2'.same s2, fun H3 b s3 hb => ?_⟩
      refine k H3 b ((s1.trans s2).trans s3) (hb.trans ⟨fun e => ?_, fun e => e.a⟩)
      simp only [List.cons.injEq, and_true] at hc
      exact ⟨hc.1, hc.2.1, hc.2.2.1, hc.2.2.2, e⟩
    · rw [decide_eq_false hc]
      refine iteF ?_
      refine k H2 false (s1.trans s2) ⟨fun e => (nomatch e), fun e => absurd ?_ hc⟩
      rw [e.f, e.k, e.r, e.e]
def sp_first_parting (K : PySem.W.Frag) : Sp := fun vs H Q _ => ∃ (p1 p2 t1 t2 : Addr) (S1 S2 : Sett) (D : Nat), vs = [.ref p1, .ref p2] ∧ SetAt K p1 t1 S1 H ∧ SetAt K p2 t2 S2 H ∧ S1.Good D ∧ S2.Good D ∧ (¬ Alike S1 S2 → ∃ r, r < D ∧ PartsAt S1 S2 r) ∧ ∀ H', Same H H' → (Alike S1 S2 → Q .non H') ∧ (∀ r, r < D → ¬ Alike S1 S2 → PartsAt S1 S2 r → Q (.int r) H')
theorem O_first_parting (T : Tx K mg) : GF P w K mg base CX0 "first_parting" ["one", "other"] 7 (sp_first_parting K) := by
  have O_check_settings := O_check_settings (P := P) (w := w) (base := base) T
  have O_are_alike := O_are_alike (P := P) (w := w) (base := base) T
  have O_Store_init := O_Store_init (P := P) (w := w) (base := base) T
  have O_Store_step := O_Store_step (P := P) (w := w) (base := base) T
  obtain ⟨fd, F⟩ := T.F_first_parting
  refine ⟨_, fd, ?_, T.g_first_parting, F.kp, F.bindsN fun _ _ _ _ _ _ us hl => match us, hl with | [_, _], _ => rfl⟩
  refine F.ok sc_first_parting (fun vs H Q E h => ?_) (fun cdv A outer s H vs Q E hr h => ?_)
  · first | (obtain ⟨rfl, _⟩ := h; rfl) | (obtain ⟨_, rfl, _⟩ := h; rfl) | (obtain ⟨_, _, rfl, _⟩ := h; rfl) | (obtain ⟨_, _, _, rfl, _⟩ := h; rfl) | (obtain ⟨_, _, _, _, rfl, _⟩ := h; rfl) | (obtain ⟨_, _, _, _, _, rfl, _⟩ := h; rfl) | (obtain ⟨_, _, _, _, _, _, rfl, _⟩ := h; rfl) | (obtain ⟨_, _, _, _, _, _, _, rfl, _⟩ := h; rfl) | (obtain ⟨_, _, _, _, _, _, _, _, rfl, _⟩ := h; rfl) | (obtain ⟨_, _, _, _, _, _, _, _, _, rfl, _⟩ := h; rfl) | (obtain ⟨_, _, _, _, _, _, _, _, _, _, rfl, _⟩ := h; rfl) | (obtain ⟨_, _, _, _, _, _, _, _, _, _, _, rfl, _⟩ := h; rfl) | (obtain ⟨_, _, _, _, _, _, _, _, _, _, _, _, rfl, _⟩ := h; rfl) | (obtain ⟨_, _, _, _, _, _, _, _, _, _, _, _, _, rfl, _⟩ := h; rfl) | (obtain ⟨_, _, _, _, _, _, _, _, _, _, _, _, _, _, rfl, _⟩ := h; rfl) | (obtain ⟨_, _, _, _, _, _, _, _, _, _, _, _, _, _, _, rfl, _⟩ := h; rfl) | (obtain ⟨_, _, _, _, _, _, _, _, _, _, _, _, _, _, _, _, rfl, _⟩ := h; rfl) | (obtain ⟨_, _, _, _, _, _, _, _, _, _, _, _, _, _, _, _, _, rfl, _⟩ := h; rfl) | (obtain ⟨_, _, _, _, _, _, _, _, _, _, _, _, _, _, _, _, _, _, rfl, _⟩ := h; rfl) | (obtain ⟨_, _, _, _, _, _, _, _, _, _, _, _, _, _, _, _, _, _, _, rfl, _⟩ := h; rfl) | (obtain ⟨_, _, _, _, _, _, _, _, _, _, _, _, _, _, _, _, _, _, _, _, rfl, _⟩ := h; rfl) | (obtain ⟨_, _, _, _, _, _, _, _, _, _, _, _, _, _, _, _, _, _, _, _, _, rfl, _⟩ := h; rfl)
  · obtain ⟨p1, p2, t1, t2, S1, S2, D, rfl, h1, h2, g1, g2, hx, k⟩ := h
    refine ⟨_, PSs.nox (pss_cons (ps_expr (pg O_check_settings hr pass0 (pa_cons (pv 0) pa_nil)))
  (pss_cons (ps_expr (pg O_check_settings hr pass0 (pa_cons (pv 1) pa_nil)))
  (pss_cons (ps_if (pt_val (pg O_are_alike hr pass0 (pa_cons (pv 0) (pa_cons (pv 1) pa_nil))))
  (pss_one (ps_ret pe_non))
  pss_nil)
  (pss_cons (ps_par3 (i := 2) (j := 3) (l := 4) (by rfl) sc_first_parting.nd rfl rfl rfl (by decide) (by decide) (by decide) rfl rfl rfl (pa_cons (pk O_Store_init hr pass0 (pa_cons (pv 0) pa_nil)) (pa_cons (pk O_Store_init hr pass0 (pa_cons (pv 1) pa_nil)) (pa_cons pe_int pa_nil))) (by rfl))
  (pss_cons (ps_while PassesOwn.never (pt_cmpR (op_eqD hr.units) (pm0 O_Store_step T.c_Store hr pass0 (pv 2)) (pm0 O_Store_step T.c_Store hr pass0 (pv 3)) (nomark _))
  (pss_one (ps_aug (i := 4) sc_first_parting.nd rfl (Or.inl rfl) pe_int ip_add)))
  (pss_one (ps_ret (pv 4)))))))), ?_⟩
    wtm_at "go"
    refine ⟨p1, t1, S1, rfl, h1, ?_⟩
    wtm_at "go"
    refine ⟨p2, t2, S2, rfl, h2, ?_⟩
    wtm_at "go"
    refine ⟨p1, p2, t1, t2, S1, S2, rfl, h1, h2, fun H1 b s1 hb => ?_⟩
    wtm_at "go"
    cases b with
    | true =>
      refine iteT ?_
      wtm_at "go"
      exact (k H1 s1).1 (hb.mp rfl)
    | false =>
      have hna : ¬ Alike S1 S2 := fun z => by have := hb.mpr z; cases this
      obtain ⟨r, hr1, hp⟩ := hx hna
      refine iteF ?_
      have h1' := h1.same s1
      have h2' := h2.same s1
      wtm_at "go"
      refine i_makeK fun x1 dx1 H2 hx1 hd1 e1 s2 => ?_
      refine ⟨x1, dx1, p1, t1, S1, rfl, e1, h1'.same s2, fun H3 a h3 ap aps ats fra bua => ⟨rfl, ?_⟩⟩
      have sm3 := made_same hx1 s2 bua
      have na := made_new hx1 s2 h3 ap aps ats fra
      wtm_at "go"
      refine i_makeK fun x2 dx2 H4 hx2 hd2 e2 s4 => ?_
      refine ⟨x2, dx2, p2, t2, S2, rfl, e2, (h2'.same sm3).same s4, fun H5 b h5 bp bps bts frb bub => ⟨rfl, ?_⟩⟩
      have two := Two.made h3 na h2' hx2 s4 h5 bp bps bts frb bub
      have nb0 := made_new hx2 s4 h5 bp bps bts frb
      have nb : NewTo b H1 := fun x hx => sm3.free (nb0 x hx)
      have sm5 : Same H1 H5 := sm3.trans (made_same hx2 s4 bub)
      rw [← ap, ← bp]
      wtm_at "go"
      refine i_whileR (fun m σ H' => ∃ (j : Nat) (a b : SA), m + j = r ∧ σ = [some (.ref p1), some (.ref p2), some (.ref a.p), some (.ref b.p), some (.int j)] ∧ Two K a b S1 S2 (S1.run j) (S2.run j) H' ∧ Same H1 H' ∧ NewTo a H1 ∧ NewTo b H1) r ?_ ?_
      · exact ⟨0, a, b, by omega, rfl, two, sm5, na, nb⟩
      · rintro m σ H6 ⟨j, a, b, hm, rfl, two, sm, na, nb⟩
        wtm_at "go"
        refine i_methK two.sa.ob stF_no_step ?_
        wtm_at "go"
        refine ⟨a, S1, _, rfl, two.sa, g1 j (by omega), fun H7 a' l1 H8 ws1 h7 m7 nl1 s8 hl1 hw1 => ?_⟩
        have two7 := two.left h7 m7
        have two8 := two7.same s8
        have sm8 := (na.sm sm m7).trans s8
        have na' := na.mv sm m7
        have nl1b : l1 ∉ b.foot := fun z => two7.sb.fresh nl1 (mem_foot z)
        wtm_at "go"
        refine i_methK two8.sb.ob stF_no_step ?_
        wtm_at "go"
        refine ⟨b, S2, _, rfl, two8.sb, g2 j (by omega), fun H9 b' l2 H10 ws2 h9 m9 nl2 s10 hl2 hw2 => ?_⟩
        have two10 := (two8.right h9 m9).same s10
        have sm10 := (nb.sm sm8 m9).trans s10
        have nb' := nb.mv sm8 m9
        have hl1' := s10 _ _ (m9.keep _ _ hl1 nl1b)
        have hw1' := hw1.keep (m9.tups.trans (TupKeep.of_same s10))
        wtm_at "go"
        refine q_eqEvs hl1' hl2 hw1' hw2 ?_
        wtm_at "go"
        by_cases hc : ((S1.run j).step S1.cf).ev = ((S2.run j).step S2.cf).ev
        · rw [decide_eq_true hc]
          refine iteT ⟨_, fun _ _ z => z, ?_⟩
          wtm_at "go"
          have hjr : j ≠ r := fun z => hp.2 (by rw [← z]; exact hc)
          exact ⟨m - 1, by omega, j + 1, a', b', by omega, by rw [m7.p, m9.p]; rfl, two10, sm10, na', nb'⟩
        · rw [decide_eq_false hc]
          refine iteF ?_
          wtm_at "go"
          have hjr : j = r := by
            by_cases hlt : j < r
            · exact absurd (hp.1 j hlt) hc
            · omega
          rw [hjr]
          exact (k H10 (s1.trans sm10)).2 r hr1 hna hp
def sp_law_first_unlike (K : PySem.W.Frag) : Sp := fun vs H Q _ => ∃ (p1 p2 t1 t2 : Addr) (S1 S2 : Sett) (D : Nat), vs = [.ref p1, .ref p2, .int D] ∧ SetAt K p1 t1 S1 H ∧ SetAt K p2 t2 S2 H ∧ D < 2 ^ 60 ∧ S1.Good D ∧ S2.Good D ∧ ∀ H', Same H H' → ((∀ j, j < D → S1.evs j = S2.evs j) → Q .non H') ∧ (∀ r, r < D → PartsAt S1 S2 r → Q (.int r) H')
theorem O_law_first_unlike (T : Tx K mg) : GF P w K mg base CX0 "_law_first_unlike" ["one", "other", "many"] 7 (sp_law_first_unlike K) := by
  have O_Store_init := O_Store_init (P := P) (w := w) (base := base) T
  have O_Store_step := O_Store_step (P := P) (w := w) (base := base) T
  obtain ⟨fd, F⟩ := T.F_law_first_unlike
  refine ⟨_, fd, ?_, T.g_law_first_unlike, F.kp, F.bindsN fun _ _ _ _ _ _ us hl => match us, hl with | [_, _, _], _ => rfl⟩
  refine F.ok sc_law_first_unlike (fun vs H Q E h => ?_) (fun cdv A outer s H vs Q E hr h => ?_)
  · first | (obtain ⟨rfl, _⟩ := h; rfl) | (obtain ⟨_, rfl, _⟩ := h; rfl) | (obtain ⟨_, _, rfl, _⟩ := h; rfl) | (obtain ⟨_, _, _, rfl, _⟩ := h; rfl) | (obtain ⟨_, _, _, _, rfl, _⟩ := h; rfl) | (obtain ⟨_, _, _, _, _, rfl, _⟩ := h; rfl) | (obtain ⟨_, _, _, _, _, _, rfl, _⟩ := h; rfl) | (obtain ⟨_, _, _, _, _, _, _, rfl, _⟩ := h; rfl) | (obtain ⟨_, _, _, _, _, _, _, _, rfl, _⟩ := h; rfl) | (obtain ⟨_, _, _, _, _, _, _, _, _, rfl, _⟩ := h; rfl) | (obtain ⟨_, _, _, _, _, _, _, _, _, _, rfl, _⟩ := h; rfl) | (obtain ⟨_, _, _, _, _, _, _, _, _, _, _, rfl, _⟩ := h; rfl) | (obtain ⟨_, _, _, _, _, _, _, _, _, _, _, _, rfl, _⟩ := h; rfl) | (obtain ⟨_, _, _, _, _, _, _, _, _, _, _, _, _, rfl, _⟩ := h; rfl) | (obtain ⟨_, _, _, _, _, _, _, _, _, _, _, _, _, _, rfl, _⟩ := h; rfl) | (obtain ⟨_, _, _, _, _, _, _, _, _, _, _, _, _, _, _, rfl, _⟩ := h; rfl) | (obtain ⟨_, _, _, _, _, _, _, _, _, _, _, _, _, _, _, _, rfl, _⟩ := h; rfl) | (obtain ⟨_, _, _, _, _, _, _, _, _, _, _, _, _, _, _, _, _, rfl, _⟩ := h; rfl) | (obtain ⟨_, _, _, _, _, _, _, _, _, _, _, _, _, _, _, _, _, _, rfl, _⟩ := h; rfl) | (obtain ⟨_, _, _, _, _, _, _, _, _, _, _, _, _, _, _, _, _, _, _, rfl, _⟩ := h; rfl) | (obtain ⟨_, _, _, _, _, _, _, _, _, _, _, _, _, _, _, _, _, _, _, _, rfl, _⟩ := h; rfl) | (obtain ⟨_, _, _, _, _, _, _, _, _, _, _, _, _, _, _, _, _, _, _, _, _, rfl, _⟩ := h; rfl)
  · obtain ⟨p1, p2, t1, t2, S1, S2, D, rfl, h1, h2, hDb, g1, g2, k⟩ := h
    refine ⟨_, PSs.nox (pss_cons (ps_par (i := 3) (j := 4) (by rfl) sc_law_first_unlike.nd rfl rfl (by decide) rfl rfl (pa_cons (pk O_Store_init hr pass0 (pa_cons (pv 0) pa_nil)) (pa_cons (pk O_Store_init hr pass0 (pa_cons (pv 1) pa_nil)) pa_nil)) (by rfl))
  (pss_cons (ps_for PassesOwn.never rfl (pi_range1 rfl T.f_range (pa_cons (pv 2) pa_nil)) (pg_name (i := 5) sc_law_first_unlike.nd rfl (Or.inl rfl))
  (pss_one (ps_if (pt_cmpR (op_neD hr.units) (pm0 O_Store_step T.c_Store hr pass0 (pv 3)) (pm0 O_Store_step T.c_Store hr pass0 (pv 4)) (nomark _))
  (pss_one (ps_ret (pv 5)))
  pss_nil)))
  (pss_one (ps_ret pe_non)))), ?_⟩
    wtm_at "go"
    refine i_makeK fun x1 dx1 H2 hx1 hd1 e1 s2 => ?_
    refine ⟨x1, dx1, p1, t1, S1, rfl, e1, h1.same s2, fun H3 a h3 ap aps ats fra bua => ⟨rfl, ?_⟩⟩
    have sm3 := made_same hx1 s2 bua
    have na := made_new hx1 s2 h3 ap aps ats fra
    wtm_at "go"
    refine i_makeK fun x2 dx2 H4 hx2 hd2 e2 s4 => ?_
    refine ⟨x2, dx2, p2, t2, S2, rfl, e2, (h2.same sm3).same s4, fun H5 b h5 bp bps bts frb bub => ⟨rfl, ?_⟩⟩
    have two := Two.made h3 na h2 hx2 s4 h5 bp bps bts frb bub
    have nb0 := made_new hx2 s4 h5 bp bps bts frb
    have nb : NewTo b H := fun x hx => sm3.free (nb0 x hx)
    have sm5 : Same H H5 := sm3.trans (made_same hx2 s4 bub)
    rw [← ap, ← bp]
    wtm_at "go"
    refine i_rngK (by omega) (by omega) ?_
    rw [Int.toNat_natCast]
    refine i_forK walk_range (fun j σ H' => ∃ (a b : SA) (v5 : Option V), σ = [some (.ref p1), some (.ref p2), some (.int D), some (.ref a.p), some (.ref b.p), v5] ∧ Two K a b S1 S2 (S1.run j) (S2.run j) H' ∧ Same H H' ∧ NewTo a H ∧ NewTo b H ∧ ∀ i, i < j → S1.evs i = S2.evs i) ?_ (fun _ _ _ _ _ => True.intro) ?_ ?_
    · exact ⟨a, b, none, rfl, two, sm5, na, nb, fun i hi => absurd hi (by omega)⟩
    · rintro j x σ H6 H6' hj ⟨a, b, v5, rfl, two, sm, na, nb, hev⟩ ⟨ee, ex⟩
      have e3 : x = V.int (j : Int) := by
        rw [ex]
        show V.int (0 + (j : Int)) = _
        rw [Int.zero_add]
      clear ex
      subst ee e3
      wtm_at "go"
      refine i_methK two.sa.ob stF_no_step ?_
      wtm_at "go"
      refine ⟨a, S1, _, rfl, two.sa, g1 j (by omega), fun H7 a' l1 H8 ws1 h7 m7 nl1 s8 hl1 hw1 => ?_⟩
      have two7 := two.left h7 m7
      have two8 := two7.same s8
      have sm8 := (na.sm sm m7).trans s8
      have na' := na.mv sm m7
      have nl1b : l1 ∉ b.foot := fun z => two7.sb.fresh nl1 (mem_foot z)
      wtm_at "go"
      refine i_methK two8.sb.ob stF_no_step ?_
      wtm_at "go"
      refine ⟨b, S2, _, rfl, two8.sb, g2 j (by omega), fun H9 b' l2 H10 ws2 h9 m9 nl2 s10 hl2 hw2 => ?_⟩
      have two10 := (two8.right h9 m9).same s10
      have sm10 := (nb.sm sm8 m9).trans s10
      have nb' := nb.mv sm8 m9
      have hl1' := s10 _ _ (m9.keep _ _ hl1 nl1b)
      have hw1' := hw1.keep (m9.tups.trans (TupKeep.of_same s10))
      wtm_at "go"
      refine q_neEvs hl1' hl2 hw1' hw2 ?_
      wtm_at "go"
      by_cases hc : ((S1.run j).step S1.cf).ev = ((S2.run j).step S2.cf).ev
      · rw [show (!decide (((S1.run j).step S1.cf).ev = ((S2.run j).step S2.cf).ev)) = false by simp [hc]]
        refine iteF ?_
        wtm_at "go"
        refine ⟨a', b', some (.int j), by rw [m7.p, m9.p]; rfl, two10, sm10, na', nb', fun i hi => ?_⟩
        by_cases he : i = j
        · rw [he]; exact hc
        · exact hev i (by omega)
      · rw [show (!decide (((S1.run j).step S1.cf).ev = ((S2.run j).step S2.cf).ev)) = true by simp [hc]]
        refine iteT ?_
        wtm_at "go"
        exact (k H10 sm10).2 j hj ⟨hev, hc⟩
    · rintro σ H6 ⟨a, b, v5, rfl, two, sm, na, nb, hev⟩
      wtm_at "go"
      exact (k H6 sm).1 hev
end
end K90


namespace K90
open PySem PySem.Spec PyProof.Rows L2 KR
local macro_rules | `(tactic| wtm_at "go1") => `(tactic| first
  | (with_reducible refine i_seq ?_) | ((with_reducible refine' i_var ?k1 ?_); (case k1 => exact rfl)) | (with_reducible refine i_c ?_) | (with_reducible refine i_asg ?_) | (with_reducible refine i_name ?_)
  | (with_reducible refine i_ret ?_) | (with_reducible refine i_retN ?_) | (with_reducible refine i_drop ?_) | (with_reducible refine i_next ?_) | (with_reducible refine i_op ?_) | (with_reducible refine i_rI0 ?_)
  | (with_reducible refine i_fld ?_) | (with_reducible refine i_setf ?_) | (with_reducible refine i_augf ?_) | (with_reducible refine i_meth ?_) | (with_reducible refine i_cons ?_) | (with_reducible refine i_nil ?_)
  | (with_reducible refine i_call ?_) | (with_reducible refine i_cb ?_) | (with_reducible refine i_test ?_) | (with_reducible refine i_tB ?_) | (with_reducible refine i_bl ?_) | (with_reducible refine i_not ?_)
  | (with_reducible refine i_if ?_) | (with_reducible refine i_ifE ?_) | (with_reducible refine i_andV ?_) | (with_reducible refine i_orV ?_) | (with_reducible refine i_notV ?_) | (with_reducible refine i_and ?_) | (with_reducible refine i_or ?_)
  | (with_reducible refine i_rEqI ?_) | (with_reducible refine i_rNeI ?_) | (with_reducible refine i_un ?_) | (with_reducible refine i_rU ?_) | (with_reducible refine i_chain ?_) | (with_reducible refine i_tpar ?_) | (with_reducible refine i_par ?_) | (with_reducible refine i_tpar3 ?_) | (with_reducible refine i_par3 ?_)
  | ((with_reducible refine' i_aug ?k1 ?_); (case k1 => exact rfl)) | (with_reducible refine i_ipI ?_) | (with_reducible refine i_tup ?_) | (with_reducible refine i_lst ?_) | (with_reducible refine i_bm ?_) | (with_reducible refine i_bm0 ?_)
  | (with_reducible refine i_for ?_) | (with_reducible refine i_list ?_) | (with_reducible refine i_rng1 ?_) | (with_reducible refine i_keys ?_) | (with_reducible refine i_lc ?_) | (with_reducible refine i_yes ?_) | (with_reducible refine i_dput ?_)
  | (with_reducible refine i_dget ?_) | (with_reducible refine i_din ?_) | (with_reducible refine i_dnotin ?_) | (with_reducible refine i_dget1 ?_) | (with_reducible refine i_dget2 ?_) | (with_reducible refine i_dpop2 ?_)
  | (with_reducible refine q_max2 ?_) | (with_reducible refine q_min2 ?_) | (with_reducible refine q_notN ?_) | (with_reducible refine q_isN ?_) | (with_reducible refine i_gtup ?_) | (with_reducible refine i_gcons ?_) | (with_reducible refine i_gnil ?_) | (with_reducible refine i_make ?_) | (with_reducible refine i_dnewK ?_) | (with_reducible refine i_dnewT ?_)
  | (with_reducible refine q_int1 ?_) | (with_reducible refine q_int1b ?_) | (with_reducible refine i_sl ?_) | (with_reducible refine i_npart ?_) | (with_reducible refine i_part ?_) | (with_reducible refine i_pint ?_) | (with_reducible refine i_pcons ?_) | (with_reducible refine i_pnil ?_) | (with_reducible refine i_gsub ?_) | (with_reducible refine i_makeKw ?_)
  | (with_reducible refine i_rAdd ?_) | (with_reducible refine i_rSub ?_) | (with_reducible refine i_isN ?_))
local macro_rules | `(tactic| wtm_at "go") => `(tactic| repeat (wtm_at "go1"))

/-! ### the law's dicts -/
def partsV (l : Addr) (S : Sett) : List (Key × V) := [(.inr "lengths", .ref l), (.inr "size", .int S.size), (.inr "fanout", .int S.fanout), (.inr "records", .int S.recs), (.inr "every", .int S.every), (.inr "keep", .int S.keep)]
def DictAt (d : Addr) (S : Sett) (H : Hp) : Prop := ∃ l, H d = some (.dK (partsV l S)) ∧ H l = some (.lst (S.lengths.map V.int))
theorem DictAt.same {d : Addr} {S : Sett} {H H' : Hp} (x : DictAt d S H) (s : Same H H') : DictAt d S H' := let ⟨l, e1, e2⟩ := x; ⟨l, s _ _ e1, s _ _ e2⟩
section
variable {l : Addr} {S : Sett}
theorem pv_lengths : valV (partsV l S) (.inr "lengths") = some (.ref l) := by kernel_rfl
theorem pv_size : valV (partsV l S) (.inr "size") = some (.int S.size) := by kernel_rfl
theorem pv_fanout : valV (partsV l S) (.inr "fanout") = some (.int S.fanout) := by kernel_rfl
theorem pv_records : valV (partsV l S) (.inr "records") = some (.int S.recs) := by kernel_rfl
theorem pv_every : valV (partsV l S) (.inr "every") = some (.int S.every) := by kernel_rfl
theorem pv_keep : valV (partsV l S) (.inr "keep") = some (.int S.keep) := by kernel_rfl
theorem put_lengths {m : Addr} {ls : List Int} : putK (partsV l S) (.inr "lengths") (.ref m) = partsV m { S with lengths := ls } := by kernel_rfl
theorem put_size {x : Int} : putK (partsV l S) (.inr "size") (.int x) = partsV l { S with size := x } := by kernel_rfl
theorem put_fanout {x : Int} : putK (partsV l S) (.inr "fanout") (.int x) = partsV l { S with fanout := x } := by kernel_rfl
theorem put_records {x : Int} : putK (partsV l S) (.inr "records") (.int x) = partsV l { S with recs := x } := by kernel_rfl
theorem put_every {x : Int} : putK (partsV l S) (.inr "every") (.int x) = partsV l { S with every := x } := by kernel_rfl
theorem put_keep {x : Int} : putK (partsV l S) (.inr "keep") (.int x) = partsV l { S with keep := x } := by kernel_rfl
end
theorem i_joinV {c : Bool} {t u : TS} {D : Ends} {σ : L2.St} {H : Hp} (P : L2.St → Hp → Prop) (ht : ∀ D' : Ends, (∀ σ' H', P σ' H' → D'.nx σ' H') → if c = true then t D' σ H else u D' σ H) (h : ∀ σ' H', P σ' H' → D.nx σ' H') : if c = true then t D σ H else u D σ H := ht D h
structure GenS (S : Sett) : Prop where
  ok : S.Ok
  s6 : S.size ≤ 6
  l3 : S.lengths.length ≤ 3
theorem md (x : Int) {m : Int} (h : 0 < m) : 0 ≤ x % m ∧ x % m < m := ⟨Int.emod_nonneg _ (by omega), Int.emod_lt_of_pos _ h⟩
section
variable {P : Program} {w : World} {K : PySem.W.Frag} {mg : Str → Option Value} {base : Heap}
def sp_law_digits (K : PySem.W.Frag) : Sp := fun vs H Q _ => ∃ (c : Int) (n : Nat), vs = [.int c, .int n] ∧ n ≤ 64 ∧ ∀ (H' : Hp) (l : Addr) (ds : List Int), Same H H' → H' l = some (.lst (ds.map V.int)) → ds.length = n → Q (.ref l) H'
theorem O_law_digits (T : Tx K mg) : GF P w K mg base CX0 "_law_digits" ["cell", "many"] 1 (sp_law_digits K) := by
  obtain ⟨fd, F⟩ := T.F_law_digits
  refine ⟨_, fd, ?_, T.g_law_digits, F.kp, F.bindsN fun _ _ _ _ _ _ us hl => match us, hl with | [_, _], _ => rfl⟩
  refine F.ok sc_law_digits (fun vs H Q E h => ?_) (fun cdv A outer s H vs Q E hr h => ?_)
  · first | (obtain ⟨rfl, _⟩ := h; rfl) | (obtain ⟨_, rfl, _⟩ := h; rfl) | (obtain ⟨_, _, rfl, _⟩ := h; rfl) | (obtain ⟨_, _, _, rfl, _⟩ := h; rfl) | (obtain ⟨_, _, _, _, rfl, _⟩ := h; rfl) | (obtain ⟨_, _, _, _, _, rfl, _⟩ := h; rfl) | (obtain ⟨_, _, _, _, _, _, rfl, _⟩ := h; rfl) | (obtain ⟨_, _, _, _, _, _, _, rfl, _⟩ := h; rfl) | (obtain ⟨_, _, _, _, _, _, _, _, rfl, _⟩ := h; rfl) | (obtain ⟨_, _, _, _, _, _, _, _, _, rfl, _⟩ := h; rfl) | (obtain ⟨_, _, _, _, _, _, _, _, _, _, rfl, _⟩ := h; rfl) | (obtain ⟨_, _, _, _, _, _, _, _, _, _, _, rfl, _⟩ := h; rfl) | (obtain ⟨_, _, _, _, _, _, _, _, _, _, _, _, rfl, _⟩ := h; rfl) | (obtain ⟨_, _, _, _, _, _, _, _, _, _, _, _, _, rfl, _⟩ := h; rfl) | (obtain ⟨_, _, _, _, _, _, _, _, _, _, _, _, _, _, rfl, _⟩ := h; rfl) | (obtain ⟨_, _, _, _, _, _, _, _, _, _, _, _, _, _, _, rfl, _⟩ := h; rfl) | (obtain ⟨_, _, _, _, _, _, _, _, _, _, _, _, _, _, _, _, rfl, _⟩ := h; rfl) | (obtain ⟨_, _, _, _, _, _, _, _, _, _, _, _, _, _, _, _, _, rfl, _⟩ := h; rfl) | (obtain ⟨_, _, _, _, _, _, _, _, _, _, _, _, _, _, _, _, _, _, rfl, _⟩ := h; rfl) | (obtain ⟨_, _, _, _, _, _, _, _, _, _, _, _, _, _, _, _, _, _, _, rfl, _⟩ := h; rfl) | (obtain ⟨_, _, _, _, _, _, _, _, _, _, _, _, _, _, _, _, _, _, _, _, rfl, _⟩ := h; rfl) | (obtain ⟨_, _, _, _, _, _, _, _, _, _, _, _, _, _, _, _, _, _, _, _, _, rfl, _⟩ := h; rfl)
  · obtain ⟨c, n, rfl, hn, k⟩ := h
    refine ⟨_, PSs.nox (pss_cons (ps_set (i := 2) sc_law_digits.nd rfl (Or.inl rfl) (pe_lst pa_nil))
  (pss_cons (ps_set (i := 3) sc_law_digits.nd rfl (Or.inl rfl) pe_int)
  (pss_cons (ps_if (pt_cmpR op_ge (pv 0) (pe_op op_pow pe_int pe_int) (nomark _))
  (pss_one (ps_set (i := 3) sc_law_digits.nd rfl (Or.inl rfl) (pv 0)))
  pss_nil)
  (pss_cons (ps_set (i := 4) sc_law_digits.nd rfl (Or.inl rfl) (pe_op op_mod (pe_callTy call_int1Q (by rfl) T.f_int (by decide +kernel) (pa_cons (pv 0) pa_nil)) pe_int))
  (pss_cons (ps_for PassesOwn.never rfl (pi_range1 rfl T.f_range (pa_cons (pv 1) pa_nil)) (pg_name (i := 5) sc_law_digits.nd rfl (Or.inl rfl))
  (pss_cons (ps_set (i := 4) sc_law_digits.nd rfl (Or.inl rfl) (pe_op op_mod (pe_callTy call_int1Q (by rfl) T.f_int (by decide +kernel) (pa_cons (pe_op op_add (pe_op op_add (pe_op op_mul (pv 4) pe_int) (pe_op op_mul pe_int (pv 5))) pe_int) pa_nil)) pe_int))
  (pss_cons (ps_set (i := 4) sc_law_digits.nd rfl (Or.inl rfl) (pe_op op_mod (pe_callTy call_int1Q (by rfl) T.f_int (by decide +kernel) (pa_cons (pe_op op_mul (pv 4) (pe_op op_add (pe_op op_fdiv (pv 4) pe_int) pe_int)) pa_nil)) pe_int))
  (pss_one (ps_if (pt_cmpR op_gt (pv 3) pe_int (nomark _))
  (pss_cons (ps_expr (pe_bm PySem.F.plainAttrs_list PySem.F.slot_list_append PySem.F.type_list_append mt_append (pv 2) (pa_cons (pe_op op_mod (pe_callTy call_int1Q (by rfl) T.f_int (by decide +kernel) (pa_cons (pv 3) pa_nil)) pe_int) pa_nil)))
  (pss_one (ps_set (i := 3) sc_law_digits.nd rfl (Or.inl rfl) (pe_op op_fdiv (pv 3) pe_int))))
  (pss_one (ps_expr (pe_bm PySem.F.plainAttrs_list PySem.F.slot_list_append PySem.F.type_list_append mt_append (pv 2) (pa_cons (pe_op op_mod (pe_callTy call_int1Q (by rfl) T.f_int (by decide +kernel) (pa_cons (pe_op op_fdiv (pv 4) pe_int) pa_nil)) pe_int) pa_nil)))))))))
  (pss_one (ps_ret (pv 2)))))))), ?_⟩
    wtm_at "go"
    refine i_lstK (of_decide_eq_true (by kernel_rfl)) fun l H1 nl hl s1 => ?_
    wtm_at "go"
    refine i_rI (by exact ⟨by decide, by decide, by decide⟩) ?_
    wtm_at "go"
    refine i_joinV (fun σ' H' => ∃ r : Int, σ' = [some (.int c), some (.int n), some (.ref l), some (.int r), none, none] ∧ H' = H1) (fun D' hD => ?_) ?_
    · by_cases hc : (10 : Int) ^ (18 : Int).toNat ≤ c
      · rw [decide_eq_true hc]
        refine iteT ?_
        wtm_at "go"
        exact hD _ _ ⟨_, rfl, rfl⟩
      · rw [decide_eq_false hc]
        refine iteF ?_
        wtm_at "go"
        exact hD _ _ ⟨_, rfl, rfl⟩
    rintro σ1 H1' ⟨r, rfl, rfl⟩
    wtm_at "go"
    refine i_rI (by decide) ?_
    wtm_at "go"
    refine i_rngK (by omega) (by omega) ?_
    rw [Int.toNat_natCast]
    have m0 := md c (m := 2147483647) (by decide)
    refine i_forK walk_range (fun i σ H' => ∃ (ds : List Int) (num r : Int) (v5 : Option V), σ = [some (.int c), some (.int n), some (.ref l), some (.int r), some (.int num), v5] ∧ H' l = some (.lst (ds.map V.int)) ∧ ds.length = i ∧ 0 ≤ num ∧ num < 2147483647 ∧ Same H H') ?_ (fun _ _ _ _ _ => True.intro) ?_ ?_
    · exact ⟨[], _, r, none, rfl, hl, rfl, m0.1, m0.2, s1⟩
    · rintro i x σ H2 H2' hi ⟨ds, num, r, v5, rfl, hl2, hlen, n1, n2, sm⟩ ⟨ee, ex⟩
      have e3 : x = V.int (i : Int) := by
        rw [ex]
        show V.int (0 + (i : Int)) = _
        rw [Int.zero_add]
      clear ex
      subst ee e3
      wtm_at "go"
      refine i_rI (.inr ⟨by decide, by decide⟩) ?_
      wtm_at "go"
      refine i_rI (.inl ⟨by decide, by decide⟩) ?_
      wtm_at "go"
      refine i_rI (by decide) ?_
      wtm_at "go"
      have m1 := md (num * 48271 + 30103 * (i : Int) + 11) (m := 2147483647) (by decide)
      generalize (num * 48271 + 30103 * (i : Int) + 11) % 2147483647 = num1 at m1 ⊢
      refine i_rI (by exact ⟨by decide, by decide⟩) ?_
      wtm_at "go"
      refine i_rI (.inl ⟨by omega, by omega⟩) ?_
      wtm_at "go"
      refine i_rI (by decide) ?_
      wtm_at "go"
      have m2 := md (num1 * (num1 / 1009 + 69621)) (m := 2147483629) (by decide)
      generalize (num1 * (num1 / 1009 + 69621)) % 2147483629 = num2 at m2 ⊢
      have fin : ∀ (d r2 : Int) (H' : Hp), H' l = some (.lst (ds.map V.int ++ [V.int d])) → (∀ b, b ≠ l → H' b = H2' b) → ∃ (ds : List Int) (num r : Int) (v5 : Option V), ([some (.int c), some (.int n), some (.ref l), some (.int r2), some (.int num2), some (.int (i : Int))] : L2.St) = [some (.int c), some (.int n), some (.ref l), some (.int r), some (.int num), v5] ∧ H' l = some (.lst (ds.map V.int)) ∧ ds.length = i + 1 ∧ 0 ≤ num ∧ num < 2147483647 ∧ Same H H' := fun d r2 H' e nb =>
        ⟨ds ++ [d], num2, r2, _, rfl, by rw [e]; simp, by simp [hlen], m2.1, by omega, fun b o eb => by rw [nb b (ne_of_none eb nl)]; exact sm b o eb⟩
      have hz : (ds.map V.int).length < sizeLine := by rw [List.length_map]; simp only [sizeLine]; omega
      by_cases hc : (0 : Int) < r
      · rw [decide_eq_true hc]
        refine iteT ?_
        wtm_at "go"
        refine i_bmL hl2 ?_
        wtm_at "go"
        refine i_rI (by decide) ?_
        wtm_at "go"
        refine i_app hl2 hz fun H3 e3 n3 => ?_
        wtm_at "go"
        refine i_rI (by exact ⟨by decide, by decide⟩) ?_
        wtm_at "go"
        exact fin _ _ H3 e3 n3
      · rw [decide_eq_false hc]
        refine iteF ?_
        wtm_at "go"
        refine i_bmL hl2 ?_
        wtm_at "go"
        refine i_rI (by exact ⟨by decide, by decide⟩) ?_
        wtm_at "go"
        refine i_rI (by decide) ?_
        wtm_at "go"
        refine i_app hl2 hz fun H3 e3 n3 => ?_
        wtm_at "go"
        exact fin _ _ H3 e3 n3
    · rintro σ H2 ⟨ds, num, r, v5, rfl, hl2, hlen, n1, n2, sm⟩
      wtm_at "go"
      exact k H2 l ds sm hl2 hlen
def sp_law_parts (K : PySem.W.Frag) : Sp := fun vs H Q _ => ∃ (l : Addr) (ds : List Int), vs = [.ref l] ∧ H l = some (.lst (ds.map V.int)) ∧ 20 ≤ ds.length ∧ ∀ (H' : Hp) (d : Addr) (S : Sett), Same H H' → DictAt d S H' → GenS S → Q (.ref d) H'
theorem O_law_parts (T : Tx K mg) : GF P w K mg base CX0 "_law_parts" ["digits"] 1 (sp_law_parts K) := by
  obtain ⟨fd, F⟩ := T.F_law_parts
  refine ⟨_, fd, ?_, T.g_law_parts, F.kp, F.bindsN fun _ _ _ _ _ _ us hl => match us, hl with | [_], _ => rfl⟩
  refine F.ok sc_law_parts (fun vs H Q E h => ?_) (fun cdv A outer s H vs Q E hr h => ?_)
  · first | (obtain ⟨rfl, _⟩ := h; rfl) | (obtain ⟨_, rfl, _⟩ := h; rfl) | (obtain ⟨_, _, rfl, _⟩ := h; rfl) | (obtain ⟨_, _, _, rfl, _⟩ := h; rfl) | (obtain ⟨_, _, _, _, rfl, _⟩ := h; rfl) | (obtain ⟨_, _, _, _, _, rfl, _⟩ := h; rfl) | (obtain ⟨_, _, _, _, _, _, rfl, _⟩ := h; rfl) | (obtain ⟨_, _, _, _, _, _, _, rfl, _⟩ := h; rfl) | (obtain ⟨_, _, _, _, _, _, _, _, rfl, _⟩ := h; rfl) | (obtain ⟨_, _, _, _, _, _, _, _, _, rfl, _⟩ := h; rfl) | (obtain ⟨_, _, _, _, _, _, _, _, _, _, rfl, _⟩ := h; rfl) | (obtain ⟨_, _, _, _, _, _, _, _, _, _, _, rfl, _⟩ := h; rfl) | (obtain ⟨_, _, _, _, _, _, _, _, _, _, _, _, rfl, _⟩ := h; rfl) | (obtain ⟨_, _, _, _, _, _, _, _, _, _, _, _, _, rfl, _⟩ := h; rfl) | (obtain ⟨_, _, _, _, _, _, _, _, _, _, _, _, _, _, rfl, _⟩ := h; rfl) | (obtain ⟨_, _, _, _, _, _, _, _, _, _, _, _, _, _, _, rfl, _⟩ := h; rfl) | (obtain ⟨_, _, _, _, _, _, _, _, _, _, _, _, _, _, _, _, rfl, _⟩ := h; rfl) | (obtain ⟨_, _, _, _, _, _, _, _, _, _, _, _, _, _, _, _, _, rfl, _⟩ := h; rfl) | (obtain ⟨_, _, _, _, _, _, _, _, _, _, _, _, _, _, _, _, _, _, rfl, _⟩ := h; rfl) | (obtain ⟨_, _, _, _, _, _, _, _, _, _, _, _, _, _, _, _, _, _, _, rfl, _⟩ := h; rfl) | (obtain ⟨_, _, _, _, _, _, _, _, _, _, _, _, _, _, _, _, _, _, _, _, rfl, _⟩ := h; rfl) | (obtain ⟨_, _, _, _, _, _, _, _, _, _, _, _, _, _, _, _, _, _, _, _, _, rfl, _⟩ := h; rfl)
  · obtain ⟨l, ds, rfl, hl, hd, k⟩ := h
    refine ⟨_, PSs.nox (pss_cons (ps_set (i := 1) sc_law_parts.nd rfl (Or.inr rfl) (pe_op op_add pe_int (pe_op op_mod (pe_callTy call_int1Q (by rfl) T.f_int (by decide +kernel) (pa_cons (pe_ix ix_list (pv 0) pe_int (fun _ _ => rfl)) pa_nil)) pe_int)))
  (pss_cons (ps_setLc (i := 2) (own := [("k", 3)]) (g := gName 3) (tt := tYes) (te := tOp (rI0 fun i j => .int (i + j)) (tC (.int 1)) (tOp (rI (fun _ j => 0 < j) fun i j => .int (i % j)) (tCB rInt1 (tCons (tOp (rIxL K) (tVar 0) (tOp (rI0 fun i j => .int (i + j)) (tC (.int 1)) (tVar 3))) tNil)) (tVar 1))) rfl sc_law_parts.nd rfl rfl (sw_true rfl rfl rfl (by decide +kernel)) (pi_range1 rfl T.f_range (pa_cons (pe_op op_add pe_int (pe_op op_mod (pe_callTy call_int1Q (by rfl) T.f_int (by decide +kernel) (pa_cons (pe_ix ix_list (pv 0) pe_int (fun _ _ => rfl)) pa_nil)) pe_int)) pa_nil)) (blkOk_by (own := [("k", 3)]) (N := ["digits", "size", "lengths", "k", "parts"]) (sc := defScope s_law_parts) (by decide +kernel)) (fun _ _ _ _ _ => by exact (pg_name (i := 3) sc_law_parts.nd rfl (Or.inl rfl))) (fun _ _ _ _ _ => by exact pts_nil) (fun _ _ _ _ _ => by exact (pe_op op_add pe_int (pe_op op_mod (pe_callTy call_int1Q (by rfl) T.f_int (by decide +kernel) (pa_cons (pe_ix ix_list (pv 0) (pe_op op_add pe_int (pv 3)) (fun _ _ => rfl)) pa_nil)) (pv 1)))))
  (pss_cons (ps_set (i := 4) sc_law_parts.nd rfl (Or.inl rfl) (pe_disp (pps_cons pe_str (pv 2) (pps_cons pe_str (pv 1) (pps_cons pe_str (pe_op op_add pe_int (pe_op op_mod (pe_callTy call_int1Q (by rfl) T.f_int (by decide +kernel) (pa_cons (pe_ix ix_list (pv 0) pe_int (fun _ _ => rfl)) pa_nil)) pe_int)) pps_nil))) (by rfl) (by rfl) (fun z => by cases z) (by decide)))
  (pss_cons (ps_dput (hu_of hr) (pv 4) pe_str (pe_op op_add pe_int (pe_op op_mod (pe_callTy call_int1Q (by rfl) T.f_int (by decide +kernel) (pa_cons (pe_ix ix_list (pv 0) pe_int (fun _ _ => rfl)) pa_nil)) (pe_ix ix_list (pe_lst (pa_cons pe_int (pa_cons pe_int (pa_cons pe_int pa_nil)))) (pe_op op_mod (pe_callTy call_int1Q (by rfl) T.f_int (by decide +kernel) (pa_cons (pe_ix ix_list (pv 0) pe_int (fun _ _ => rfl)) pa_nil)) pe_int) (fun _ _ => rfl)))) rfl)
  (pss_cons (ps_dput (hu_of hr) (pv 4) pe_str (pe_op op_add pe_int (pe_op op_mod (pe_callTy call_int1Q (by rfl) T.f_int (by decide +kernel) (pa_cons (pe_ix ix_list (pv 0) pe_int (fun _ _ => rfl)) pa_nil)) (pe_ix ix_list (pe_lst (pa_cons pe_int (pa_cons pe_int pa_nil))) (pe_op op_mod (pe_callTy call_int1Q (by rfl) T.f_int (by decide +kernel) (pa_cons (pe_ix ix_list (pv 0) pe_int (fun _ _ => rfl)) pa_nil)) pe_int) (fun _ _ => rfl)))) rfl)
  (pss_cons (ps_dput (hu_of hr) (pv 4) pe_str (pe_op op_add pe_int (pe_op op_mod (pe_callTy call_int1Q (by rfl) T.f_int (by decide +kernel) (pa_cons (pe_ix ix_list (pv 0) pe_int (fun _ _ => rfl)) pa_nil)) pe_int)) rfl)
  (pss_one (ps_ret (pv 4))))))))), ?_⟩
    wtm_at "go"
    refine i_ixL hl (atI_lit 0 rfl (by omega)) ?_
    wtm_at "go"
    refine i_rI (by decide) ?_
    wtm_at "go"
    have m1 := md (ds.getD 0 0) (m := 6) (by decide)
    generalize hsz : 1 + ds.getD 0 0 % 6 = sz at ⊢
    have hsz1 : 1 ≤ sz ∧ sz ≤ 6 := by omega
    refine i_ixL hl (atI_lit 4 rfl (by omega)) ?_
    wtm_at "go"
    refine i_rI (by decide) ?_
    wtm_at "go"
    have m4 := md (ds.getD 4 0) (m := 3) (by decide)
    obtain ⟨nl, hnl⟩ : ∃ m : Nat, 1 + ds.getD 4 0 % 3 = (m : Int) := ⟨(1 + ds.getD 4 0 % 3).toNat, by omega⟩
    rw [hnl]
    have hnl3 : 1 ≤ nl ∧ nl ≤ 3 := by omega
    refine i_rngK (by omega) (by omega) ?_
    rw [Int.toNat_natCast]
    refine i_lcK walk_range (fun D j H' => Same H H' ∧ H D = none ∧ ∃ ls : List Int, H' D = some (.lst (ls.map V.int)) ∧ ls.length = j ∧ ∀ x ∈ ls, 1 ≤ x ∧ x ≤ sz) ?_ (fun _ _ _ _ _ => True.intro) ?_ ?_
    · intro D H1 nD hD sD
      exact ⟨sD, nD, [], hD, rfl, fun x hx => (nomatch hx)⟩
    · rintro D j x H1 H1' hj ⟨s1, nD, ls, hD, hls, hb⟩ ⟨ee, ex⟩
      have e3 : x = V.int (j : Int) := by
        rw [ex]
        show V.int (0 + (j : Int)) = _
        rw [Int.zero_add]
      clear ex
      subst ee e3
      wtm_at "go"
      refine ⟨rfl, ?_⟩
      wtm_at "go"
      refine iteT ?_
      wtm_at "go"
      refine i_ixL (s1 _ _ hl) (atI_lit (1 + j) (by omega) (by omega)) ?_
      wtm_at "go"
      refine i_rI (show (0 : Int) < sz by omega) ?_
      wtm_at "go"
      have m5 := md (ds.getD (1 + j) 0) (m := sz) (by omega)
      refine ⟨_, hD, by rw [List.length_map]; simp only [sizeLine]; omega, fun c o ec => ?_, nD, ls ++ [1 + ds.getD (1 + j) 0 % sz], ?_, by simp [hls], fun x hx => ?_⟩
      · rw [upd_ne (ne_of_none ec nD)]
        exact s1 _ _ ec
      · rw [upd_same]; simp
      · rcases List.mem_append.mp hx with hx | hx
        · exact hb x hx
        · obtain rfl := List.mem_singleton.mp hx
          omega
    rintro D H1 ⟨s1, nD, ls, hD, hls, hb⟩
    wtm_at "go"
    refine i_disp fun p H2 np hp2 s2 => ?_
    have hl2 := s2 _ _ (s1 _ _ hl)
    have hD2 := s2 _ _ hD
    wtm_at "go"
    refine i_ixL hl2 (atI_lit 5 rfl (by omega)) ?_
    wtm_at "go"
    refine i_rI (by decide) ?_
    wtm_at "go"
    refine ⟨hp2, [(.inr "lengths", .ref D), (.inr "size", .int sz), (.inr "fanout", .int (2 + ds.getD 5 0 % 7))], rfl, of_decide_eq_true (by kernel_rfl), ?_⟩
    obtain ⟨H3, eH3, hp3', n3⟩ : ∃ H3, H3 = upd H2 p (.dK (mergeK [] [(.inr "lengths", .ref D), (.inr "size", .int sz), (.inr "fanout", .int (2 + ds.getD 5 0 % 7))])) ∧ H3 p = some (.dK [(.inr "lengths", .ref D), (.inr "size", .int sz), (.inr "fanout", .int (2 + ds.getD 5 0 % 7))]) ∧ ∀ b, b ≠ p → H3 b = H2 b := ⟨_, rfl, upd_same, fun b hb => upd_ne hb⟩
    rw [← eH3]
    have npl : l ≠ p := fun z => by rw [← z, s1 _ _ hl] at np; cases np
    have npD : D ≠ p := fun z => by rw [← z, hD] at np; cases np
    have hl3 := (n3 _ npl).trans hl2
    have hD3 := (n3 _ npD).trans hD2
    have hpH : H p = none := s1.free np
    have s3 : Same H H3 := fun c o ec => (n3 c (ne_of_none ec hpH)).trans (s2 _ _ (s1 _ _ ec))
    wtm_at "go"
    refine i_ixL hl3 (atI_lit 6 rfl (by omega)) ?_
    wtm_at "go"
    refine i_lstK (of_decide_eq_true (by kernel_rfl)) fun l4 H4 nl4 hl4 s4 => ?_
    have s4' := s3.trans s4
    wtm_at "go"
    refine i_ixL (s4 _ _ hl3) (atI_lit 9 rfl (by omega)) ?_
    wtm_at "go"
    refine i_rI (by decide) ?_
    wtm_at "go"
    obtain ⟨c9, hc9, hx9⟩ : ∃ c : Int, (c = 4 ∨ c = 16) ∧ atI ([V.int 4, V.int 4, V.int 16]) (ds.getD 9 0 % 3) = some (.int c) := by
      have := md (ds.getD 9 0) (m := 3) (by decide)
      rcases (show ds.getD 9 0 % 3 = 0 ∨ ds.getD 9 0 % 3 = 1 ∨ ds.getD 9 0 % 3 = 2 by omega) with e | e | e <;> rw [e]
      · exact ⟨4, .inl rfl, rfl⟩
      · exact ⟨4, .inl rfl, rfl⟩
      · exact ⟨16, .inr rfl, rfl⟩
    refine i_ixL hl4 hx9 ?_
    wtm_at "go"
    have c9p : 0 < c9 ∧ c9 ≤ 16 := by omega
    refine i_rI c9p.1 ?_
    wtm_at "go"
    refine i_dputK (ky := .inr "records") (s4 _ _ hp3') (of_decide_eq_true (by kernel_rfl)) fun H5 hp5 n5 => ?_
    have n5' : ∀ b, H b ≠ none → H5 b = H4 b := fun b hb => n5 b fun z => hb (by rw [z]; exact hpH)
    have s5 : Same H H5 := fun c o ec => (n5' c (by rw [ec]; exact fun z => nomatch z)).trans (s4' _ _ ec)
    have hl5 := s5 _ _ hl
    have hD5 := (n5 D npD).trans (s4 _ _ hD3)
    wtm_at "go"
    refine i_ixL hl5 (atI_lit 7 rfl (by omega)) ?_
    wtm_at "go"
    refine i_lstK (of_decide_eq_true (by kernel_rfl)) fun l6 H6 nl6 hl6 s6 => ?_
    wtm_at "go"
    refine i_ixL (s6 _ _ hl5) (atI_lit 10 rfl (by omega)) ?_
    wtm_at "go"
    refine i_rI (by decide) ?_
    wtm_at "go"
    obtain ⟨c10, hc10, hx10⟩ : ∃ c : Int, (c = 10 ∨ c = 40) ∧ atI ([V.int 10, V.int 40]) (ds.getD 10 0 % 2) = some (.int c) := by
      have := md (ds.getD 10 0) (m := 2) (by decide)
      rcases (show ds.getD 10 0 % 2 = 0 ∨ ds.getD 10 0 % 2 = 1 by omega) with e | e <;> rw [e]
      · exact ⟨10, .inl rfl, rfl⟩
      · exact ⟨40, .inr rfl, rfl⟩
    refine i_ixL hl6 hx10 ?_
    wtm_at "go"
    have c10p : 0 < c10 ∧ c10 ≤ 40 := by omega
    refine i_rI c10p.1 ?_
    wtm_at "go"
    refine i_dputK (ky := .inr "every") (s6 _ _ hp5) (of_decide_eq_true (by kernel_rfl)) fun H7 hp7 n7 => ?_
    have s7 : Same H H7 := fun c o ec => (n7 c (ne_of_none ec hpH)).trans (s6 _ _ (s5 _ _ ec))
    have hD7 := (n7 D npD).trans (s6 _ _ hD5)
    wtm_at "go"
    refine i_ixL (s7 _ _ hl) (atI_lit 8 rfl (by omega)) ?_
    wtm_at "go"
    refine i_rI (by decide) ?_
    wtm_at "go"
    refine i_dputK (ky := .inr "keep") hp7 (of_decide_eq_true (by kernel_rfl)) fun H8 hp8 n8 => ?_
    have s8 : Same H H8 := fun c o ec => (n8 c (ne_of_none ec hpH)).trans (s7 _ _ ec)
    have hD8 := (n8 D npD).trans hD7
    wtm_at "go"
    have b5 := md (ds.getD 5 0) (m := 7) (by decide)
    have b6 := md (ds.getD 6 0) c9p.1
    have b7 := md (ds.getD 7 0) c10p.1
    have b8 := md (ds.getD 8 0) (m := 100) (by decide)
    refine k H8 p ⟨ls, sz, 2 + ds.getD 5 0 % 7, 1 + ds.getD 6 0 % c9, 1 + ds.getD 7 0 % c10, 1 + ds.getD 8 0 % 100⟩ s8 ⟨D, hp8, hD8⟩ ?_
    refine ⟨⟨?_, ?_, hb, ?_, ?_, ?_, ?_, ?_, ?_, ?_, ?_, ?_⟩, ?_, ?_⟩
    · show 1 ≤ ls.length; omega
    · show ls.length ≤ 6; omega
    · show sz ≤ 64; omega
    · show 2 ≤ 2 + ds.getD 5 0 % 7; omega
    · show 2 + ds.getD 5 0 % 7 ≤ 8; omega
    · show 1 ≤ 1 + ds.getD 6 0 % c9; omega
    · show 1 + ds.getD 6 0 % c9 ≤ 16; omega
    · show 1 ≤ 1 + ds.getD 7 0 % c10; omega
    · show 1 + ds.getD 7 0 % c10 ≤ 40; omega
    · show 1 ≤ 1 + ds.getD 8 0 % 100; omega
    · show 1 + ds.getD 8 0 % 100 ≤ 100; omega
    · show sz ≤ 6; omega
    · show ls.length ≤ 3; omega
def sp_law_settings (K : PySem.W.Frag) : Sp := fun vs H Q _ => ∃ (d : Addr) (S : Sett), vs = [.ref d] ∧ DictAt d S H ∧ S.Ok ∧ ∀ (H' : Hp) (p t : Addr), Same H H' → SetAt K p t S H' → Q (.ref p) H'
theorem O_law_settings (T : Tx K mg) : GF P w K mg base CX0 "_law_settings" ["parts"] 6 (sp_law_settings K) := by
  have O_Settings_init := O_Settings_init (P := P) (w := w) (base := base) T
  obtain ⟨fd, F⟩ := T.F_law_settings
  refine ⟨_, fd, ?_, T.g_law_settings, F.kp, F.bindsN fun _ _ _ _ _ _ us hl => match us, hl with | [_], _ => rfl⟩
  refine F.ok sc_law_settings (fun vs H Q E h => ?_) (fun cdv A outer s H vs Q E hr h => ?_)
  · first | (obtain ⟨rfl, _⟩ := h; rfl) | (obtain ⟨_, rfl, _⟩ := h; rfl) | (obtain ⟨_, _, rfl, _⟩ := h; rfl) | (obtain ⟨_, _, _, rfl, _⟩ := h; rfl) | (obtain ⟨_, _, _, _, rfl, _⟩ := h; rfl) | (obtain ⟨_, _, _, _, _, rfl, _⟩ := h; rfl) | (obtain ⟨_, _, _, _, _, _, rfl, _⟩ := h; rfl) | (obtain ⟨_, _, _, _, _, _, _, rfl, _⟩ := h; rfl) | (obtain ⟨_, _, _, _, _, _, _, _, rfl, _⟩ := h; rfl) | (obtain ⟨_, _, _, _, _, _, _, _, _, rfl, _⟩ := h; rfl) | (obtain ⟨_, _, _, _, _, _, _, _, _, _, rfl, _⟩ := h; rfl) | (obtain ⟨_, _, _, _, _, _, _, _, _, _, _, rfl, _⟩ := h; rfl) | (obtain ⟨_, _, _, _, _, _, _, _, _, _, _, _, rfl, _⟩ := h; rfl) | (obtain ⟨_, _, _, _, _, _, _, _, _, _, _, _, _, rfl, _⟩ := h; rfl) | (obtain ⟨_, _, _, _, _, _, _, _, _, _, _, _, _, _, rfl, _⟩ := h; rfl) | (obtain ⟨_, _, _, _, _, _, _, _, _, _, _, _, _, _, _, rfl, _⟩ := h; rfl) | (obtain ⟨_, _, _, _, _, _, _, _, _, _, _, _, _, _, _, _, rfl, _⟩ := h; rfl) | (obtain ⟨_, _, _, _, _, _, _, _, _, _, _, _, _, _, _, _, _, rfl, _⟩ := h; rfl) | (obtain ⟨_, _, _, _, _, _, _, _, _, _, _, _, _, _, _, _, _, _, rfl, _⟩ := h; rfl) | (obtain ⟨_, _, _, _, _, _, _, _, _, _, _, _, _, _, _, _, _, _, _, rfl, _⟩ := h; rfl) | (obtain ⟨_, _, _, _, _, _, _, _, _, _, _, _, _, _, _, _, _, _, _, _, rfl, _⟩ := h; rfl) | (obtain ⟨_, _, _, _, _, _, _, _, _, _, _, _, _, _, _, _, _, _, _, _, _, rfl, _⟩ := h; rfl)
  · obtain ⟨d, S, rfl, ⟨l, hd, hl⟩, hS, k⟩ := h
    obtain ⟨fdS, FS, FSP⟩ := O_Settings_init
    have KS := L2.FunD.kbindsN (ps := ["self", "lengths", "size", "fanout", "records", "every", "keep"]) FSP 3 ["fanout", "records", "every", "keep"] fun _ _ _ _ _ _ us ws h1 h2 => match us, ws, h1, h2 with | [_, _, _], [_, _, _, _], _, _ => rfl
    refine ⟨_, PSs.nox (pss_cons (ps_asg (pe_lc (own := [("word", 5)]) (g := gName 5) (tt := tYes) rfl sc_law_settings.nd (pi_list (pe_lst (pa_cons pe_str (pa_cons pe_str (pa_cons pe_str (pa_cons pe_str pa_nil)))))) (blkOk_by (own := [("word", 5)]) (N := ["parts", "fan", "many", "pace", "kept", "word"]) (sc := defScope s_law_settings) (by decide +kernel)) (fun _ _ _ _ _ => by exact (pg_name (i := 5) sc_law_settings.nd rfl (Or.inl rfl))) (fun _ _ _ _ _ => by exact pts_nil) (fun _ _ _ _ _ => by exact (pe_dget (hu_of hr) (pv 0) (pv 5) (fun _ _ => rfl)))) (pg_unl rfl (pgs_cons (pg_name (i := 1) sc_law_settings.nd rfl (Or.inl rfl)) (pgs_cons (pg_name (i := 2) sc_law_settings.nd rfl (Or.inl rfl)) (pgs_cons (pg_name (i := 3) sc_law_settings.nd rfl (Or.inl rfl)) (pgs_cons (pg_name (i := 4) sc_law_settings.nd rfl (Or.inl rfl)) pgs_nil))))))
  (pss_one (ps_ret (pe_makeK T.k_Settings FS (hr.mono (by decide)) rfl T.g_Settings KS pass0 (pa_cons (pe_dget (hu_of hr) (pv 0) pe_str (fun _ _ => rfl)) (pa_cons (pe_dget (hu_of hr) (pv 0) pe_str (fun _ _ => rfl)) pa_nil)) (pk_cons (pv 1) (pk_cons (pv 2) (pk_cons (pv 3) (pk_cons (pv 4) pk_nil)))))))), ?_⟩
    wtm_at "go"
    refine i_lstK (of_decide_eq_true (by kernel_rfl)) fun lw H1 nlw hlw s1 => ?_
    refine i_listK (SqL.of hlw) ?_
    refine i_lcK (walk_list (xs := [.str "fanout", .str "records", .str "every", .str "keep"])) (fun D j H' => Same H1 H' ∧ H1 D = none ∧ H' D = some (.lst (([.int S.fanout, .int S.recs, .int S.every, .int S.keep] : List V).take j))) ?_ ?_ ?_ ?_
    · intro D H2 nD hD sD
      exact ⟨sD, nD, hD⟩
    · rintro D j H2 _ ⟨s2, _⟩
      exact SqL.of (s2 _ _ hlw)
    · rintro D j x H2 H2' hj ⟨s2, nD, hD⟩ ⟨ee, hx⟩
      subst ee
      have hd2 := s2 _ _ (s1 _ _ hd)
      have hj4 : j < 4 := hj
      rcases (show j = 0 ∨ j = 1 ∨ j = 2 ∨ j = 3 by omega) with rfl | rfl | rfl | rfl <;> cases hx
      · wtm_at "go"
        refine ⟨rfl, ?_⟩
        wtm_at "go"
        refine iteT ?_
        wtm_at "go"
        refine i_dgetK (ky := .inr "fanout") hd2 pv_fanout ?_
        exact ⟨_, hD, of_decide_eq_true (by kernel_rfl), fun c o ec => (upd_ne (ne_of_none ec nD)).trans (s2 _ _ ec), nD, upd_same⟩
      · wtm_at "go"
        refine ⟨rfl, ?_⟩
        wtm_at "go"
        refine iteT ?_
        wtm_at "go"
        refine i_dgetK (ky := .inr "records") hd2 pv_records ?_
        exact ⟨_, hD, of_decide_eq_true (by kernel_rfl), fun c o ec => (upd_ne (ne_of_none ec nD)).trans (s2 _ _ ec), nD, upd_same⟩
      · wtm_at "go"
        refine ⟨rfl, ?_⟩
        wtm_at "go"
        refine iteT ?_
        wtm_at "go"
        refine i_dgetK (ky := .inr "every") hd2 pv_every ?_
        exact ⟨_, hD, of_decide_eq_true (by kernel_rfl), fun c o ec => (upd_ne (ne_of_none ec nD)).trans (s2 _ _ ec), nD, upd_same⟩
      · wtm_at "go"
        refine ⟨rfl, ?_⟩
        wtm_at "go"
        refine iteT ?_
        wtm_at "go"
        refine i_dgetK (ky := .inr "keep") hd2 pv_keep ?_
        exact ⟨_, hD, of_decide_eq_true (by kernel_rfl), fun c o ec => (upd_ne (ne_of_none ec nD)).trans (s2 _ _ ec), nD, upd_same⟩
    rintro D H2 ⟨s2, nD, hD⟩
    have s2' := s1.trans s2
    have hD' : H2 D = some (.lst [.int S.fanout, .int S.recs, .int S.every, .int S.keep]) := hD
    refine ⟨D, _, rfl, SqL.of hD', rfl, ?_⟩
    wtm_at "go"
    refine i_dgetK (ky := .inr "lengths") (s2' _ _ hd) pv_lengths ?_
    wtm_at "go"
    refine i_dgetK (ky := .inr "size") (s2' _ _ hd) pv_size ?_
    wtm_at "go"
    refine i_makeKK rfl rfl fun x dx H3 hx hdx hob s3 => ?_
    refine ⟨x, dx, l, S, rfl, hob, s3 _ _ (s2' _ _ hl), hS, fun H4 t h4 b4 => ⟨rfl, ?_⟩⟩
    exact k H4 x t (s2'.trans (made_same hx s3 b4)) h4
end
end K90


namespace K90
open PySem PySem.Spec PyProof.Rows L2 KR
local macro_rules | `(tactic| wtm_at "go1") => `(tactic| first
  | (with_reducible refine i_seq ?_) | ((with_reducible refine' i_var ?k1 ?_); (case k1 => exact rfl)) | (with_reducible refine i_c ?_) | (with_reducible refine i_asg ?_) | (with_reducible refine i_name ?_)
  | (with_reducible refine i_ret ?_) | (with_reducible refine i_retN ?_) | (with_reducible refine i_drop ?_) | (with_reducible refine i_next ?_) | (with_reducible refine i_op ?_) | (with_reducible refine i_rI0 ?_)
  | (with_reducible refine i_fld ?_) | (with_reducible refine i_setf ?_) | (with_reducible refine i_augf ?_) | (with_reducible refine i_meth ?_) | (with_reducible refine i_cons ?_) | (with_reducible refine i_nil ?_)
  | (with_reducible refine i_call ?_) | (with_reducible refine i_cb ?_) | (with_reducible refine i_test ?_) | (with_reducible refine i_tB ?_) | (with_reducible refine i_bl ?_) | (with_reducible refine i_not ?_)
  | (with_reducible refine i_if ?_) | (with_reducible refine i_ifE ?_) | (with_reducible refine i_andV ?_) | (with_reducible refine i_orV ?_) | (with_reducible refine i_notV ?_) | (with_reducible refine i_and ?_) | (with_reducible refine i_or ?_)
  | (with_reducible refine i_rEqI ?_) | (with_reducible refine i_rNeI ?_) | (with_reducible refine i_un ?_) | (with_reducible refine i_rU ?_) | (with_reducible refine i_chain ?_) | (with_reducible refine i_tpar ?_) | (with_reducible refine i_par ?_) | (with_reducible refine i_tpar3 ?_) | (with_reducible refine i_par3 ?_)
  | ((with_reducible refine' i_aug ?k1 ?_); (case k1 => exact rfl)) | (with_reducible refine i_ipI ?_) | (with_reducible refine i_tup ?_) | (with_reducible refine i_lst ?_) | (with_reducible refine i_bm ?_) | (with_reducible refine i_bm0 ?_)
  | (with_reducible refine i_for ?_) | (with_reducible refine i_list ?_) | (with_reducible refine i_rng1 ?_) | (with_reducible refine i_keys ?_) | (with_reducible refine i_lc ?_) | (with_reducible refine i_yes ?_) | (with_reducible refine i_dput ?_)
  | (with_reducible refine i_dget ?_) | (with_reducible refine i_din ?_) | (with_reducible refine i_dnotin ?_) | (with_reducible refine i_dget1 ?_) | (with_reducible refine i_dget2 ?_) | (with_reducible refine i_dpop2 ?_)
  | (with_reducible refine q_max2 ?_) | (with_reducible refine q_min2 ?_) | (with_reducible refine q_notN ?_) | (with_reducible refine q_isN ?_) | (with_reducible refine i_gtup ?_) | (with_reducible refine i_gcons ?_) | (with_reducible refine i_gnil ?_) | (with_reducible refine i_make ?_) | (with_reducible refine i_dnewK ?_) | (with_reducible refine i_dnewT ?_)
  | (with_reducible refine q_int1 ?_) | (with_reducible refine q_int1b ?_) | (with_reducible refine i_sl ?_) | (with_reducible refine i_npart ?_) | (with_reducible refine i_part ?_) | (with_reducible refine i_pint ?_) | (with_reducible refine i_pcons ?_) | (with_reducible refine i_pnil ?_) | (with_reducible refine i_gsub ?_) | (with_reducible refine i_makeKw ?_)
  | (with_reducible refine i_rAdd ?_) | (with_reducible refine i_rSub ?_) | (with_reducible refine i_isN ?_))
local macro_rules | `(tactic| wtm_at "go") => `(tactic| repeat (wtm_at "go1"))

def ChJ (fd : Addr) (S : Sett) (H : Hp) (cs k : Int) (H' : Hp) : Prop := Same H H' ∧ ∃ S', DictAt fd S' H' ∧ S'.Ok ∧ S'.Fine ∧ (k ≤ cs → S' = S)
section
variable {P : Program} {w : World} {K : PySem.W.Frag} {mg : Str → Option Value} {base : Heap}
def sp_law_changed (K : PySem.W.Frag) : Sp := fun vs H Q _ => ∃ (d l : Addr) (S : Sett) (ds : List Int), vs = [.ref d, .ref l] ∧ DictAt d S H ∧ GenS S ∧ H l = some (.lst (ds.map V.int)) ∧ 20 ≤ ds.length ∧ ∀ (H' : Hp) (d' : Addr) (S' : Sett), Same H H' → DictAt d' S' H' → S'.Ok → S'.Fine → Q (.ref d') H'
theorem O_law_changed (T : Tx K mg) : GF P w K mg base CX0 "_law_changed" ["parts", "digits"] 1 (sp_law_changed K) := by
  obtain ⟨fd, F⟩ := T.F_law_changed
  refine ⟨_, fd, ?_, T.g_law_changed, F.kp, F.bindsN fun _ _ _ _ _ _ us hl => match us, hl with | [_, _], _ => rfl⟩
  refine F.ok sc_law_changed (fun vs H Q E h => ?_) (fun cdv A outer s H vs Q E hr h => ?_)
  · first | (obtain ⟨rfl, _⟩ := h; rfl) | (obtain ⟨_, rfl, _⟩ := h; rfl) | (obtain ⟨_, _, rfl, _⟩ := h; rfl) | (obtain ⟨_, _, _, rfl, _⟩ := h; rfl) | (obtain ⟨_, _, _, _, rfl, _⟩ := h; rfl) | (obtain ⟨_, _, _, _, _, rfl, _⟩ := h; rfl) | (obtain ⟨_, _, _, _, _, _, rfl, _⟩ := h; rfl) | (obtain ⟨_, _, _, _, _, _, _, rfl, _⟩ := h; rfl) | (obtain ⟨_, _, _, _, _, _, _, _, rfl, _⟩ := h; rfl) | (obtain ⟨_, _, _, _, _, _, _, _, _, rfl, _⟩ := h; rfl) | (obtain ⟨_, _, _, _, _, _, _, _, _, _, rfl, _⟩ := h; rfl) | (obtain ⟨_, _, _, _, _, _, _, _, _, _, _, rfl, _⟩ := h; rfl) | (obtain ⟨_, _, _, _, _, _, _, _, _, _, _, _, rfl, _⟩ := h; rfl) | (obtain ⟨_, _, _, _, _, _, _, _, _, _, _, _, _, rfl, _⟩ := h; rfl) | (obtain ⟨_, _, _, _, _, _, _, _, _, _, _, _, _, _, rfl, _⟩ := h; rfl) | (obtain ⟨_, _, _, _, _, _, _, _, _, _, _, _, _, _, _, rfl, _⟩ := h; rfl) | (obtain ⟨_, _, _, _, _, _, _, _, _, _, _, _, _, _, _, _, rfl, _⟩ := h; rfl) | (obtain ⟨_, _, _, _, _, _, _, _, _, _, _, _, _, _, _, _, _, rfl, _⟩ := h; rfl) | (obtain ⟨_, _, _, _, _, _, _, _, _, _, _, _, _, _, _, _, _, _, rfl, _⟩ := h; rfl) | (obtain ⟨_, _, _, _, _, _, _, _, _, _, _, _, _, _, _, _, _, _, _, rfl, _⟩ := h; rfl) | (obtain ⟨_, _, _, _, _, _, _, _, _, _, _, _, _, _, _, _, _, _, _, _, rfl, _⟩ := h; rfl) | (obtain ⟨_, _, _, _, _, _, _, _, _, _, _, _, _, _, _, _, _, _, _, _, _, rfl, _⟩ := h; rfl)
  · obtain ⟨d, l, S, ds, rfl, ⟨lp, hd, hpl⟩, hG, hl, hds, k⟩ := h
    have hS0 := hG.ok
    have hl3 := hG.l3
    have hs6 := hG.s6
    have hl1 := hS0.l1
    refine ⟨_, PSs.nox (pss_cons (ps_par (i := 2) (j := 3) (by rfl) sc_law_changed.nd rfl rfl (by decide) rfl rfl (pa_cons (pe_callTy call_dictQ (by rfl) T.f_dict (by decide +kernel) (pa_cons (pv 0) pa_nil)) (pa_cons (pe_op op_mod (pe_callTy call_int1Q (by rfl) T.f_int (by decide +kernel) (pa_cons (pe_ix ix_list (pv 1) pe_int (fun _ _ => rfl)) pa_nil)) pe_int) pa_nil)) (by rfl))
  (pss_cons (ps_if (pt_cmpR op_eq (pv 3) pe_int (nomark _))
  (pss_one (ps_dput (hu_of hr) (pv 2) pe_str (pe_op op_add pe_int (pe_op op_mod (pe_callTy call_int1Q (by rfl) T.f_int (by decide +kernel) (pa_cons (pe_op op_add (pe_op op_sub (pe_dget (hu_of hr) (pv 0) pe_str (fun _ _ => rfl)) pe_int) (pe_op op_mod (pe_callTy call_int1Q (by rfl) T.f_int (by decide +kernel) (pa_cons (pe_ix ix_list (pv 1) pe_int (fun _ _ => rfl)) pa_nil)) pe_int)) pa_nil)) pe_int)) rfl))
  pss_nil)
  (pss_cons (ps_if (pt_cmpR op_eq (pv 3) pe_int (nomark _))
  (pss_one (ps_dput (hu_of hr) (pv 2) pe_str (pe_op op_add pe_int (pe_op op_mod (pe_callTy call_int1Q (by rfl) T.f_int (by decide +kernel) (pa_cons (pe_op op_add (pe_dget (hu_of hr) (pv 0) pe_str (fun _ _ => rfl)) (pe_op op_mod (pe_callTy call_int1Q (by rfl) T.f_int (by decide +kernel) (pa_cons (pe_ix ix_list (pv 1) pe_int (fun _ _ => rfl)) pa_nil)) pe_int)) pa_nil)) pe_int)) rfl))
  pss_nil)
  (pss_cons (ps_if (pt_cmpR op_eq (pv 3) pe_int (nomark _))
  (pss_one (ps_dput (hu_of hr) (pv 2) pe_str (pe_op op_add pe_int (pe_op op_mod (pe_callTy call_int1Q (by rfl) T.f_int (by decide +kernel) (pa_cons (pe_op op_add (pe_dget (hu_of hr) (pv 0) pe_str (fun _ _ => rfl)) (pe_op op_mod (pe_callTy call_int1Q (by rfl) T.f_int (by decide +kernel) (pa_cons (pe_ix ix_list (pv 1) pe_int (fun _ _ => rfl)) pa_nil)) pe_int)) pa_nil)) pe_int)) rfl))
  pss_nil)
  (pss_cons (ps_if (pt_cmpR op_eq (pv 3) pe_int (nomark _))
  (pss_one (ps_dput (hu_of hr) (pv 2) pe_str (pe_op op_add pe_int (pe_op op_mod (pe_callTy call_int1Q (by rfl) T.f_int (by decide +kernel) (pa_cons (pe_op op_add (pe_dget (hu_of hr) (pv 0) pe_str (fun _ _ => rfl)) (pe_op op_mod (pe_callTy call_int1Q (by rfl) T.f_int (by decide +kernel) (pa_cons (pe_ix ix_list (pv 1) pe_int (fun _ _ => rfl)) pa_nil)) pe_int)) pa_nil)) pe_int)) rfl))
  pss_nil)
  (pss_cons (ps_if (pt_cmpR op_eq (pv 3) pe_int (nomark _))
  (pss_one (ps_dput (hu_of hr) (pv 2) pe_str (pe_op op_rep (pe_dget (hu_of hr) (pv 0) pe_str (fun _ _ => rfl)) pe_int) rfl))
  pss_nil)
  (pss_cons (ps_if (pt_cmpR op_eq (pv 3) pe_int (nomark _))
  (pss_one (ps_asg (pe_tup (pa_cons (pe_lc (own := [("length", 4)]) (g := gName 4) (tt := tYes) rfl sc_law_changed.nd (pi_list (pe_dget (hu_of hr) (pv 0) pe_str (fun _ _ => rfl))) (blkOk_by (own := [("length", 4)]) (N := ["parts", "digits", "found", "case_so", "length"]) (sc := defScope s_law_changed) (by decide +kernel)) (fun _ _ _ _ _ => by exact (pg_name (i := 4) sc_law_changed.nd rfl (Or.inl rfl))) (fun _ _ _ _ _ => by exact pts_nil) (fun _ _ _ _ _ => by exact (pe_op op_mul pe_int (pv 4)))) (pa_cons (pe_op op_mul pe_int (pe_dget (hu_of hr) (pv 0) pe_str (fun _ _ => rfl))) pa_nil))) (pg_tup rfl (pgs_cons (pg_sub (pv 2) pe_str (set_dict (hu_of hr))) (pgs_cons (pg_sub (pv 2) pe_str (set_dict (hu_of hr))) pgs_nil)))))
  pss_nil)
  (pss_cons (ps_if (pt_cmpR op_eq (pv 3) pe_int (nomark _))
  (pss_one (ps_dput (hu_of hr) (pv 2) pe_str (pe_op op_add (pe_op op_add (pe_dget (hu_of hr) (pv 0) pe_str (fun _ _ => rfl)) pe_int) (pe_op op_mod (pe_callTy call_int1Q (by rfl) T.f_int (by decide +kernel) (pa_cons (pe_ix ix_list (pv 1) pe_int (fun _ _ => rfl)) pa_nil)) pe_int)) rfl))
  pss_nil)
  (pss_cons (ps_if (pt_cmpR op_eq (pv 3) pe_int (nomark _))
  (pss_one (ps_dput (hu_of hr) (pv 2) pe_str (pe_op op_cat (pe_slice sl_list (pe_dget (hu_of hr) (pv 0) pe_str (fun _ _ => rfl)) (po_some pe_int) po_none) (pe_slice sl_list (pe_dget (hu_of hr) (pv 0) pe_str (fun _ _ => rfl)) po_none (po_some pe_int))) rfl))
  pss_nil)
  (pss_cons (ps_if (pt_cmpR op_eq (pv 3) pe_int (nomark _))
  (pss_one (ps_dput (hu_of hr) (pv 2) pe_str (pe_callB (call_min2Q rfl) (by rfl) T.f_min (by decide +kernel) (pa_cons pe_int (pa_cons (pe_op op_add (pe_callB (call_max2Q rfl) (by rfl) T.f_max (by decide +kernel) (pa_cons (pe_dget (hu_of hr) (pv 0) pe_str (fun _ _ => rfl)) (pa_cons (pe_dget (hu_of hr) (pv 0) pe_str (fun _ _ => rfl)) pa_nil))) (pe_op op_mod (pe_callTy call_int1Q (by rfl) T.f_int (by decide +kernel) (pa_cons (pe_ix ix_list (pv 1) pe_int (fun _ _ => rfl)) pa_nil)) pe_int)) pa_nil))) rfl))
  pss_nil)
  (pss_one (ps_ret (pv 2))))))))))))), ?_⟩
    wtm_at "go"
    refine q_dict hd fun fd H1 nf hfd s1 => ?_
    wtm_at "go"
    refine i_ixL (s1 _ _ hl) (atI_lit 11 rfl (by omega)) ?_
    wtm_at "go"
    refine i_rI (by decide) ?_
    wtm_at "go"
    generalize ds.getD 11 0 % 9 = cs
    have hJ : ChJ fd S H cs 0 H1 := ⟨s1, S, ⟨lp, hfd, s1 _ _ hpl⟩, hS0, Sett.fine1 hS0 (by omega), fun _ => rfl⟩
    clear hfd s1
    refine i_joinS (fun H' => ChJ fd S H cs 1 H') (fun D' hD => ?_) ?_
    · by_cases hc : cs = 0
      · rw [decide_eq_true hc]
        refine iteT ?_
        obtain ⟨sm, S0, ⟨l2, hfd, hfl⟩, hS, hF, hE⟩ := hJ
        have hE1 := (hE (by omega)).symm
        subst hE1
        wtm_at "go"
        refine i_dgetK (ky := .inr "fanout") (sm _ _ hd) pv_fanout ?_
        wtm_at "go"
        refine i_ixL (sm _ _ hl) (atI_lit 12 rfl (by omega)) ?_
        wtm_at "go"
        refine i_rI (by decide) ?_
        wtm_at "go"
        refine i_rI (by decide) ?_
        wtm_at "go"
        refine i_dputK (ky := .inr "fanout") hfd (of_decide_eq_true (by kernel_rfl)) fun H2 e2 n2 => ?_
        wtm_at "go"
        have sm2 : Same H H2 := fun c o ec => (n2 c (ne_of_none ec nf)).trans (sm c o ec)
        have hfl2 := (n2 l2 (fun z => by rw [z, hfd] at hfl; cases hfl)).trans hfl
        have b := md (S.fanout - 1 + ds.getD 12 0 % 5) (m := 7) (by decide)
        exact hD H2 ⟨sm2, { S with fanout := 2 + (S.fanout - 1 + ds.getD 12 0 % 5) % 7 }, ⟨l2, e2, hfl2⟩, { hS with f2 := by show 2 ≤ 2 + _ % 7; omega, f8 := by show 2 + _ % 7 ≤ 8; omega }, hF, fun z => absurd z (by omega)⟩
      · rw [decide_eq_false hc]
        refine iteF ?_
        wtm_at "go"
        obtain ⟨sm, S0, dA, hS, hF, hE⟩ := hJ
        exact hD _ ⟨sm, S0, dA, hS, hF, fun z => hE (by omega)⟩
    clear hJ
    rintro Hk hJ
    wtm_at "go"
    refine i_joinS (fun H' => ChJ fd S H cs 2 H') (fun D' hD => ?_) ?_
    · by_cases hc : cs = 1
      · rw [decide_eq_true hc]
        refine iteT ?_
        obtain ⟨sm, S0, ⟨l2, hfd, hfl⟩, hS, hF, hE⟩ := hJ
        have hE1 := (hE (by omega)).symm
        subst hE1
        wtm_at "go"
        refine i_dgetK (ky := .inr "keep") (sm _ _ hd) pv_keep ?_
        wtm_at "go"
        refine i_ixL (sm _ _ hl) (atI_lit 12 rfl (by omega)) ?_
        wtm_at "go"
        refine i_rI (by decide) ?_
        wtm_at "go"
        refine i_rI (by decide) ?_
        wtm_at "go"
        refine i_dputK (ky := .inr "keep") hfd (of_decide_eq_true (by kernel_rfl)) fun H2 e2 n2 => ?_
        wtm_at "go"
        have sm2 : Same H H2 := fun c o ec => (n2 c (ne_of_none ec nf)).trans (sm c o ec)
        have hfl2 := (n2 l2 (fun z => by rw [z, hfd] at hfl; cases hfl)).trans hfl
        have b := md (S.keep + ds.getD 12 0 % 3) (m := 100) (by decide)
        exact hD H2 ⟨sm2, { S with keep := 1 + (S.keep + ds.getD 12 0 % 3) % 100 }, ⟨l2, e2, hfl2⟩, { hS with k1 := by show 1 ≤ 1 + _ % 100; omega, k100 := by show 1 + _ % 100 ≤ 100; omega }, hF, fun z => absurd z (by omega)⟩
      · rw [decide_eq_false hc]
        refine iteF ?_
        wtm_at "go"
        obtain ⟨sm, S0, dA, hS, hF, hE⟩ := hJ
        exact hD _ ⟨sm, S0, dA, hS, hF, fun z => hE (by omega)⟩
    clear hJ
    rintro Hk hJ
    wtm_at "go"
    refine i_joinS (fun H' => ChJ fd S H cs 3 H') (fun D' hD => ?_) ?_
    · by_cases hc : cs = 2
      · rw [decide_eq_true hc]
        refine iteT ?_
        obtain ⟨sm, S0, ⟨l2, hfd, hfl⟩, hS, hF, hE⟩ := hJ
        have hE1 := (hE (by omega)).symm
        subst hE1
        wtm_at "go"
        refine i_dgetK (ky := .inr "every") (sm _ _ hd) pv_every ?_
        wtm_at "go"
        refine i_ixL (sm _ _ hl) (atI_lit 12 rfl (by omega)) ?_
        wtm_at "go"
        refine i_rI (by decide) ?_
        wtm_at "go"
        refine i_rI (by decide) ?_
        wtm_at "go"
        refine i_dputK (ky := .inr "every") hfd (of_decide_eq_true (by kernel_rfl)) fun H2 e2 n2 => ?_
        wtm_at "go"
        have sm2 : Same H H2 := fun c o ec => (n2 c (ne_of_none ec nf)).trans (sm c o ec)
        have hfl2 := (n2 l2 (fun z => by rw [z, hfd] at hfl; cases hfl)).trans hfl
        have b := md (S.every + ds.getD 12 0 % 5) (m := 40) (by decide)
        exact hD H2 ⟨sm2, { S with every := 1 + (S.every + ds.getD 12 0 % 5) % 40 }, ⟨l2, e2, hfl2⟩, { hS with e1 := by show 1 ≤ 1 + _ % 40; omega, e40 := by show 1 + _ % 40 ≤ 40; omega }, hF, fun z => absurd z (by omega)⟩
      · rw [decide_eq_false hc]
        refine iteF ?_
        wtm_at "go"
        obtain ⟨sm, S0, dA, hS, hF, hE⟩ := hJ
        exact hD _ ⟨sm, S0, dA, hS, hF, fun z => hE (by omega)⟩
    clear hJ
    rintro Hk hJ
    wtm_at "go"
    refine i_joinS (fun H' => ChJ fd S H cs 4 H') (fun D' hD => ?_) ?_
    · by_cases hc : cs = 3
      · rw [decide_eq_true hc]
        refine iteT ?_
        obtain ⟨sm, S0, ⟨l2, hfd, hfl⟩, hS, hF, hE⟩ := hJ
        have hE1 := (hE (by omega)).symm
        subst hE1
        wtm_at "go"
        refine i_dgetK (ky := .inr "records") (sm _ _ hd) pv_records ?_
        wtm_at "go"
        refine i_ixL (sm _ _ hl) (atI_lit 12 rfl (by omega)) ?_
        wtm_at "go"
        refine i_rI (by decide) ?_
        wtm_at "go"
        refine i_rI (by decide) ?_
        wtm_at "go"
        refine i_dputK (ky := .inr "records") hfd (of_decide_eq_true (by kernel_rfl)) fun H2 e2 n2 => ?_
        wtm_at "go"
        have sm2 : Same H H2 := fun c o ec => (n2 c (ne_of_none ec nf)).trans (sm c o ec)
        have hfl2 := (n2 l2 (fun z => by rw [z, hfd] at hfl; cases hfl)).trans hfl
        have b := md (S.recs + ds.getD 12 0 % 5) (m := 16) (by decide)
        exact hD H2 ⟨sm2, { S with recs := 1 + (S.recs + ds.getD 12 0 % 5) % 16 }, ⟨l2, e2, hfl2⟩, { hS with r1 := by show 1 ≤ 1 + _ % 16; omega, r16 := by show 1 + _ % 16 ≤ 16; omega }, hF, fun z => absurd z (by omega)⟩
      · rw [decide_eq_false hc]
        refine iteF ?_
        wtm_at "go"
        obtain ⟨sm, S0, dA, hS, hF, hE⟩ := hJ
        exact hD _ ⟨sm, S0, dA, hS, hF, fun z => hE (by omega)⟩
    clear hJ
    rintro Hk hJ
    wtm_at "go"
    refine i_joinS (fun H' => ChJ fd S H cs 5 H') (fun D' hD => ?_) ?_
    · by_cases hc : cs = 4
      · rw [decide_eq_true hc]
        refine iteT ?_
        obtain ⟨sm, S0, ⟨l2, hfd, hfl⟩, hS, hF, hE⟩ := hJ
        have hE1 := (hE (by omega)).symm
        subst hE1
        wtm_at "go"
        refine i_dgetK (ky := .inr "lengths") (sm _ _ hd) pv_lengths ?_
        wtm_at "go"
        refine q_rep2 (sm _ _ hpl) (by rw [List.length_map]; simp only [sizeLine]; omega) fun lr H2 nr hr2 s2 => ?_
        wtm_at "go"
        refine i_dputK (ky := .inr "lengths") (s2 _ _ hfd) (of_decide_eq_true (by kernel_rfl)) fun H3 e3 n3 => ?_
        wtm_at "go"
        have sm3 : Same H H3 := fun c o ec => (n3 c (ne_of_none ec nf)).trans (s2 _ _ (sm c o ec))
        have hr3 := (n3 lr (fun z => by rw [z, hfd] at nr; cases nr)).trans hr2
        have hO : ({ S with lengths := S.lengths ++ S.lengths } : Sett).Ok := { hS with l1 := by show 1 ≤ (S.lengths ++ S.lengths).length; rw [List.length_append]; omega, l6 := by show (S.lengths ++ S.lengths).length ≤ 6; rw [List.length_append]; omega, len := fun x hx => (List.mem_append.mp hx).elim (hS.len x) (hS.len x) }
        exact hD H3 ⟨sm3, { S with lengths := S.lengths ++ S.lengths }, ⟨lr, e3, by rw [hr3]; simp⟩, hO, Sett.fine1 hO (show S.size ≤ 8 by omega), fun z => absurd z (by omega)⟩
      · rw [decide_eq_false hc]
        refine iteF ?_
        wtm_at "go"
        obtain ⟨sm, S0, dA, hS, hF, hE⟩ := hJ
        exact hD _ ⟨sm, S0, dA, hS, hF, fun z => hE (by omega)⟩
    clear hJ
    rintro Hk hJ
    wtm_at "go"
    refine i_joinS (fun H' => ChJ fd S H cs 6 H') (fun D' hD => ?_) ?_
    · by_cases hc : cs = 5
      · rw [decide_eq_true hc]
        refine iteT ?_
        obtain ⟨sm, S0, ⟨l2, hfd, hfl⟩, hS, hF, hE⟩ := hJ
        have hE1 := (hE (by omega)).symm
        subst hE1
        wtm_at "go"
        refine i_dgetK (ky := .inr "lengths") (sm _ _ hd) pv_lengths ?_
        wtm_at "go"
        have hpl2 := sm _ _ hpl
        refine i_listK (SqL.of hpl2) ?_
        refine i_lcK (walk_list (xs := S.lengths.map V.int)) (fun D j H' => Same Hk H' ∧ Hk D = none ∧ H' D = some (.lst (((S.lengths.take j).map fun x => 2 * x).map V.int))) ?_ ?_ ?_ ?_
        · intro D H2 nD hD2 sD
          exact ⟨sD, nD, hD2⟩
        · rintro D j H2 _ ⟨s2, _⟩
          exact SqL.of (s2 _ _ hpl2)
        · rintro D j x H2 H2' hj ⟨s2, nD, hD2⟩ ⟨ee, hx⟩
          subst ee
          rw [List.getElem?_map] at hx
          obtain ⟨y, hy, rfl⟩ := Option.map_eq_some_iff.mp hx
          wtm_at "go"
          refine ⟨rfl, ?_⟩
          wtm_at "go"
          refine iteT ?_
          wtm_at "go"
          refine i_rI (.inl ⟨by decide, by decide⟩) ?_
          refine ⟨_, hD2, ?_, fun c o ec => (upd_ne (ne_of_none ec nD)).trans (s2 _ _ ec), nD, ?_⟩
          · simp only [List.length_map, List.length_take, sizeLine]; omega
          · rw [upd_same, List.take_succ, hy]; simp
        rintro D H2 ⟨s2, nD, hD2⟩
        have hD2' : H2 D = some (.lst ((S.lengths.map fun x => 2 * x).map V.int)) := by rw [hD2, List.length_map, List.take_length]
        wtm_at "go"
        refine i_dgetK (ky := .inr "size") (s2 _ _ (sm _ _ hd)) pv_size ?_
        wtm_at "go"
        refine i_rI (.inl ⟨by decide, by decide⟩) ?_
        wtm_at "go"
        refine i_tupK (of_decide_eq_true (by kernel_rfl)) fun t3 H3 nt3 ht3 s3 => ?_
        wtm_at "go"
        refine i_gtupK ht3 rfl ?_
        wtm_at "go"
        refine q_setD (ky := .inr "lengths") (s3 _ _ (s2 _ _ hfd)) (of_decide_eq_true (by kernel_rfl)) fun H4 e4 n4 => ?_
        wtm_at "go"
        refine q_setD (ky := .inr "size") e4 (of_decide_eq_true (by kernel_rfl)) fun H5 e5 n5 => ?_
        wtm_at "go"
        have nfD : D ≠ fd := fun z => by rw [z, hfd] at nD; cases nD
        have sm5 : Same H H5 := fun c o ec => (n5 c (ne_of_none ec nf)).trans ((n4 c (ne_of_none ec nf)).trans (s3 _ _ (s2 _ _ (sm c o ec))))
        have hD5 := (n5 D nfD).trans ((n4 D nfD).trans (s3 _ _ hD2'))
        have hO : ({ S with lengths := S.lengths.map fun x => 2 * x, size := 2 * S.size } : Sett).Ok := { hS with l1 := by show 1 ≤ (S.lengths.map fun x => 2 * x).length; rw [List.length_map]; omega, l6 := by show (S.lengths.map fun x => 2 * x).length ≤ 6; rw [List.length_map]; omega, len := fun x hx => (by obtain ⟨y, hy, rfl⟩ := List.mem_map.mp hx; have := hS.len y hy; show 1 ≤ 2 * y ∧ 2 * y ≤ 2 * S.size; omega), size := by show 2 * S.size ≤ 64; omega }
        refine hD H5 ⟨sm5, { S with lengths := S.lengths.map fun x => 2 * x, size := 2 * S.size }, ⟨D, e5, hD5⟩, hO, fun a => ?_, fun z => absurd z (by omega)⟩
        have := Sett.rows_mul hO (m := 2) (fun r => ?_) a
        · have h12 : (2 * S.size) ≤ 12 := by omega
          have e : ({ S with lengths := S.lengths.map fun x => 2 * x, size := 2 * S.size } : Sett).size = 2 * S.size := rfl
          omega
        · unfold Sett.lenAt
          have h1 := hO.ix r
          rw [List.getD_eq_getElem?_getD, List.getElem?_eq_getElem h1]
          have hm := List.getElem_mem h1
          obtain ⟨y, hy, e⟩ := List.mem_map.mp hm
          show 2 ≤ _
          rw [Option.getD_some, ← e]
          have := (hS.len y hy).1
          omega
      · rw [decide_eq_false hc]
        refine iteF ?_
        wtm_at "go"
        obtain ⟨sm, S0, dA, hS, hF, hE⟩ := hJ
        exact hD _ ⟨sm, S0, dA, hS, hF, fun z => hE (by omega)⟩
    clear hJ
    rintro Hk hJ
    wtm_at "go"
    refine i_joinS (fun H' => ChJ fd S H cs 7 H') (fun D' hD => ?_) ?_
    · by_cases hc : cs = 6
      · rw [decide_eq_true hc]
        refine iteT ?_
        obtain ⟨sm, S0, ⟨l2, hfd, hfl⟩, hS, hF, hE⟩ := hJ
        have hE1 := (hE (by omega)).symm
        subst hE1
        wtm_at "go"
        refine i_dgetK (ky := .inr "size") (sm _ _ hd) pv_size ?_
        wtm_at "go"
        refine i_ixL (sm _ _ hl) (atI_lit 12 rfl (by omega)) ?_
        wtm_at "go"
        refine i_rI (by decide) ?_
        wtm_at "go"
        refine i_dputK (ky := .inr "size") hfd (of_decide_eq_true (by kernel_rfl)) fun H2 e2 n2 => ?_
        wtm_at "go"
        have sm2 : Same H H2 := fun c o ec => (n2 c (ne_of_none ec nf)).trans (sm c o ec)
        have hfl2 := (n2 l2 (fun z => by rw [z, hfd] at hfl; cases hfl)).trans hfl
        have b := md (ds.getD 12 0) (m := 2) (by decide)
        have hO : ({ S with size := S.size + 1 + ds.getD 12 0 % 2 } : Sett).Ok := { hS with len := fun x hx => (by have := hS.len x hx; show 1 ≤ x ∧ x ≤ S.size + 1 + _ % 2; omega), size := by show S.size + 1 + _ % 2 ≤ 64; omega }
        exact hD H2 ⟨sm2, { S with size := S.size + 1 + ds.getD 12 0 % 2 }, ⟨l2, e2, hfl2⟩, hO, Sett.fine1 hO (show S.size + 1 + ds.getD 12 0 % 2 ≤ 8 by omega), fun z => absurd z (by omega)⟩
      · rw [decide_eq_false hc]
        refine iteF ?_
        wtm_at "go"
        obtain ⟨sm, S0, dA, hS, hF, hE⟩ := hJ
        exact hD _ ⟨sm, S0, dA, hS, hF, fun z => hE (by omega)⟩
    clear hJ
    rintro Hk hJ
    wtm_at "go"
    refine i_joinS (fun H' => ChJ fd S H cs 8 H') (fun D' hD => ?_) ?_
    · by_cases hc : cs = 7
      · rw [decide_eq_true hc]
        refine iteT ?_
        obtain ⟨sm, S0, ⟨l2, hfd, hfl⟩, hS, hF, hE⟩ := hJ
        have hE1 := (hE (by omega)).symm
        subst hE1
        wtm_at "go"
        refine i_dgetK (ky := .inr "lengths") (sm _ _ hd) pv_lengths ?_
        wtm_at "go"
        refine q_slL (sm _ _ hpl) fun la H2 na ha s2 => ?_
        wtm_at "go"
        refine i_dgetK (ky := .inr "lengths") (s2 _ _ (sm _ _ hd)) pv_lengths ?_
        wtm_at "go"
        refine q_slL (s2 _ _ (sm _ _ hpl)) fun lb H3 nb hb s3 => ?_
        wtm_at "go"
        rw [cut_from] at ha
        rw [show (1 : Int) = ((1 : Nat) : Int) from rfl, cut_to] at hb
        refine q_catL (s3 _ _ ha) hb (by simp only [List.length_drop, List.length_take, List.length_map, sizeLine]; omega) fun lc H4 nc hc4 s4 => ?_
        wtm_at "go"
        have hfd4 := s4 _ _ (s3 _ _ (s2 _ _ hfd))
        refine i_dputK (ky := .inr "lengths") hfd4 (of_decide_eq_true (by kernel_rfl)) fun H5 e5 n5 => ?_
        wtm_at "go"
        have sm5 : Same H H5 := fun c o ec => (n5 c (ne_of_none ec nf)).trans (s4 _ _ (s3 _ _ (s2 _ _ (sm c o ec))))
        have hc5 := (n5 lc (fun z => by rw [z, s3 _ _ (s2 _ _ hfd)] at nc; cases nc)).trans hc4
        have hlen : (S.lengths.drop 1 ++ S.lengths.take 1).length = S.lengths.length := by simp only [List.length_append, List.length_drop, List.length_take]; omega
        have hO : ({ S with lengths := S.lengths.drop 1 ++ S.lengths.take 1 } : Sett).Ok := { hS with l1 := by show 1 ≤ (S.lengths.drop 1 ++ S.lengths.take 1).length; omega, l6 := by show (S.lengths.drop 1 ++ S.lengths.take 1).length ≤ 6; omega, len := fun x hx => (List.mem_append.mp hx).elim (fun h => hS.len x (List.mem_of_mem_drop h)) (fun h => hS.len x (List.mem_of_mem_take h)) }
        exact hD H5 ⟨sm5, { S with lengths := S.lengths.drop 1 ++ S.lengths.take 1 }, ⟨lc, e5, by rw [hc5]; simp⟩, hO, Sett.fine1 hO (show S.size ≤ 8 by omega), fun z => absurd z (by omega)⟩
      · rw [decide_eq_false hc]
        refine iteF ?_
        wtm_at "go"
        obtain ⟨sm, S0, dA, hS, hF, hE⟩ := hJ
        exact hD _ ⟨sm, S0, dA, hS, hF, fun z => hE (by omega)⟩
    clear hJ
    rintro Hk hJ
    wtm_at "go"
    refine i_joinS (fun H' => ChJ fd S H cs 9 H') (fun D' hD => ?_) ?_
    · by_cases hc : cs = 8
      · rw [decide_eq_true hc]
        refine iteT ?_
        obtain ⟨sm, S0, ⟨l2, hfd, hfl⟩, hS, hF, hE⟩ := hJ
        have hE1 := (hE (by omega)).symm
        subst hE1
        wtm_at "go"
        refine i_dgetK (ky := .inr "every") (sm _ _ hd) pv_every ?_
        wtm_at "go"
        refine i_dgetK (ky := .inr "records") (sm _ _ hd) pv_records ?_
        wtm_at "go"
        refine i_ixL (sm _ _ hl) (atI_lit 12 rfl (by omega)) ?_
        wtm_at "go"
        refine i_rI (by decide) ?_
        wtm_at "go"
        refine i_dputK (ky := .inr "records") hfd (of_decide_eq_true (by kernel_rfl)) fun H2 e2 n2 => ?_
        wtm_at "go"
        have sm2 : Same H H2 := fun c o ec => (n2 c (ne_of_none ec nf)).trans (sm c o ec)
        have hfl2 := (n2 l2 (fun z => by rw [z, hfd] at hfl; cases hfl)).trans hfl
        have b := md (ds.getD 12 0) (m := 3) (by decide)
        refine hD H2 ⟨sm2, { S with recs := if (if S.recs > S.every then S.recs else S.every) + ds.getD 12 0 % 3 < 16 then (if S.recs > S.every then S.recs else S.every) + ds.getD 12 0 % 3 else 16 }, ⟨l2, e2, hfl2⟩, { hS with r1 := ?_, r16 := ?_ }, hF, fun z => absurd z (by omega)⟩
        · show 1 ≤ ite _ _ _
          have := hS.r1
          have := hS.e1
          split <;> split <;> omega
        · show ite _ _ _ ≤ 16
          split <;> omega
      · rw [decide_eq_false hc]
        refine iteF ?_
        wtm_at "go"
        obtain ⟨sm, S0, dA, hS, hF, hE⟩ := hJ
        exact hD _ ⟨sm, S0, dA, hS, hF, fun z => hE (by omega)⟩
    clear hJ
    rintro Hk hJ
    wtm_at "go"
    obtain ⟨sm, S', dA, hS, hF, _⟩ := hJ
    exact k _ fd S' sm dA hS hF
end
end K90


namespace K90
open PySem PySem.Spec PyProof.Rows L2 KR
local macro_rules | `(tactic| wtm_at "go1") => `(tactic| first
  | (with_reducible refine i_seq ?_) | ((with_reducible refine' i_var ?k1 ?_); (case k1 => exact rfl)) | (with_reducible refine i_c ?_) | (with_reducible refine i_asg ?_) | (with_reducible refine i_name ?_)
  | (with_reducible refine i_ret ?_) | (with_reducible refine i_retN ?_) | (with_reducible refine i_drop ?_) | (with_reducible refine i_next ?_) | (with_reducible refine i_op ?_) | (with_reducible refine i_rI0 ?_)
  | (with_reducible refine i_fld ?_) | (with_reducible refine i_setf ?_) | (with_reducible refine i_augf ?_) | (with_reducible refine i_meth ?_) | (with_reducible refine i_cons ?_) | (with_reducible refine i_nil ?_)
  | (with_reducible refine i_call ?_) | (with_reducible refine i_cb ?_) | (with_reducible refine i_test ?_) | (with_reducible refine i_tB ?_) | (with_reducible refine i_bl ?_) | (with_reducible refine i_not ?_)
  | (with_reducible refine i_if ?_) | (with_reducible refine i_ifE ?_) | (with_reducible refine i_andV ?_) | (with_reducible refine i_orV ?_) | (with_reducible refine i_notV ?_) | (with_reducible refine i_and ?_) | (with_reducible refine i_or ?_)
  | (with_reducible refine i_rEqI ?_) | (with_reducible refine i_rNeI ?_) | (with_reducible refine i_un ?_) | (with_reducible refine i_rU ?_) | (with_reducible refine i_chain ?_) | (with_reducible refine i_tpar ?_) | (with_reducible refine i_par ?_) | (with_reducible refine i_tpar3 ?_) | (with_reducible refine i_par3 ?_)
  | ((with_reducible refine' i_aug ?k1 ?_); (case k1 => exact rfl)) | (with_reducible refine i_ipI ?_) | (with_reducible refine i_tup ?_) | (with_reducible refine i_lst ?_) | (with_reducible refine i_bm ?_) | (with_reducible refine i_bm0 ?_)
  | (with_reducible refine i_for ?_) | (with_reducible refine i_list ?_) | (with_reducible refine i_rng1 ?_) | (with_reducible refine i_keys ?_) | (with_reducible refine i_lc ?_) | (with_reducible refine i_yes ?_) | (with_reducible refine i_dput ?_)
  | (with_reducible refine i_dget ?_) | (with_reducible refine i_din ?_) | (with_reducible refine i_dnotin ?_) | (with_reducible refine i_dget1 ?_) | (with_reducible refine i_dget2 ?_) | (with_reducible refine i_dpop2 ?_)
  | (with_reducible refine q_max2 ?_) | (with_reducible refine q_min2 ?_) | (with_reducible refine q_notN ?_) | (with_reducible refine q_isN ?_) | (with_reducible refine i_gtup ?_) | (with_reducible refine i_gcons ?_) | (with_reducible refine i_gnil ?_) | (with_reducible refine i_make ?_) | (with_reducible refine i_dnewK ?_) | (with_reducible refine i_dnewT ?_)
  | (with_reducible refine q_int1 ?_) | (with_reducible refine q_int1b ?_) | (with_reducible refine i_sl ?_) | (with_reducible refine i_npart ?_) | (with_reducible refine i_part ?_) | (with_reducible refine i_pint ?_) | (with_reducible refine i_pcons ?_) | (with_reducible refine i_pnil ?_) | (with_reducible refine i_gsub ?_) | (with_reducible refine i_makeKw ?_)
  | (with_reducible refine i_rAdd ?_) | (with_reducible refine i_rSub ?_) | (with_reducible refine i_isN ?_))
local macro_rules | `(tactic| wtm_at "go") => `(tactic| repeat (wtm_at "go1"))

theorem i_rNeS {H : Hp} {Q : VK} {x y : Str} (k : Q (.bl (!decide (x = y))) H) : rNe (.str x) (.str y) H Q := ⟨rfl, by
  have e : decide (V.str x = V.str y) = decide (x = y) := by simp
  rw [e]; exact k⟩
theorem q_eqIntD {K : PySem.W.Frag} {H : Hp} {Q : VK} {i j : Int} (k : Q (.bl (decide (i = j))) H) : rEqD K (.int i) (.int j) H Q :=
  ⟨.int i, .int j, .int i, .int j, rfl, rfl, by
    have e : PyData.eqv (.int i) (.int j) = decide (i = j) := by rw [PyData.eqv]; exact beq_dec i j
    rw [e]; exact k⟩
theorem q_eqNon {K : PySem.W.Frag} {H : Hp} {Q : VK} (k : Q (.bl true) H) : rEqD K .non .non H Q := ⟨.none, .none, .non, .non, rfl, rfl, k⟩
theorem q_neIntD {K : PySem.W.Frag} {H : Hp} {Q : VK} {i j : Int} (k : Q (.bl (!decide (i = j))) H) : rNeD K (.int i) (.int j) H Q :=
  ⟨.int i, .int j, .int i, .int j, rfl, rfl, by
    have e : PyData.eqv (.int i) (.int j) = decide (i = j) := by rw [PyData.eqv]; exact beq_dec i j
    rw [e]; exact k⟩
theorem q_neNon {K : PySem.W.Frag} {H : Hp} {Q : VK} (k : Q (.bl false) H) : rNeD K .non .non H Q := ⟨.none, .none, .non, .non, rfl, rfl, k⟩
def words : List Str := ["fanout", "keep", "every", "records", "size"]
def wordV (S : Sett) (w : Str) : Int := if w = "fanout" then S.fanout else if w = "keep" then S.keep else if w = "every" then S.every else if w = "records" then S.recs else S.size
def wordUp (S : Sett) (w : Str) (x : Int) : Sett := if w = "fanout" then { S with fanout := x } else if w = "keep" then { S with keep := x } else if w = "every" then { S with every := x } else if w = "records" then { S with recs := x } else { S with size := x }
def wordDue (S : Sett) (w : Str) : Int := if w = "fanout" then S.size * S.fanout else if w = "keep" then S.size - 1 + S.keep else if w = "every" then S.every - 1 else if w = "records" then S.recs else S.size
def rowsV (S : Sett) : List (Key × V) := [(.inr "every", .int (S.every - 1)), (.inr "records", .int S.recs), (.inr "size", .int S.size), (.inr "fanout", .int (S.size * S.fanout)), (.inr "keep", .int (S.size - 1 + S.keep))]
theorem words_of {w : Str} (h : w ∈ words) : w = "fanout" ∨ w = "keep" ∨ w = "every" ∨ w = "records" ∨ w = "size" := by simpa [words] using h
theorem word_get {l : Addr} {S : Sett} {w : Str} (h : w ∈ words) : valV (partsV l S) (.inr w) = some (.int (wordV S w)) := by
  rcases words_of h with rfl | rfl | rfl | rfl | rfl <;> kernel_rfl
theorem word_put {l : Addr} {S : Sett} {w : Str} {x : Int} (h : w ∈ words) : putK (partsV l S) (.inr w) (.int x) = partsV l (wordUp S w x) := by
  rcases words_of h with rfl | rfl | rfl | rfl | rfl <;> kernel_rfl
theorem word_due {S : Sett} {w : Str} (h : w ∈ words) : valV (rowsV S) (.inr w) = some (.int (wordDue S w)) := by
  rcases words_of h with rfl | rfl | rfl | rfl | rfl <;> kernel_rfl
theorem eq_parts {l : Addr} {S S' : Sett} : ((partsV l S').all fun p => decide (valV (partsV l S) p.1 = some p.2)) = (decide (S.size = S'.size) && (decide (S.fanout = S'.fanout) && (decide (S.recs = S'.recs) && (decide (S.every = S'.every) && decide (S.keep = S'.keep))))) := by
  have e : ∀ f : Key × V → Bool, (partsV l S').all f = (f (.inr "lengths", .ref l) && (f (.inr "size", .int S'.size) && (f (.inr "fanout", .int S'.fanout) && (f (.inr "records", .int S'.recs) && (f (.inr "every", .int S'.every) && (f (.inr "keep", .int S'.keep) && true)))))) := fun f => rfl
  rw [e]
  simp only [pv_lengths, pv_size, pv_fanout, pv_records, pv_every, pv_keep]
  simp
theorem mem_partsV {l : Addr} {S S' : Sett} : ∀ p ∈ partsV l S', ∃ q, valV (partsV l S) p.1 = some q ∧ eqVV p.2 q := by
  intro p hp
  simp only [partsV, List.mem_cons, List.not_mem_nil, or_false] at hp
  rcases hp with rfl | rfl | rfl | rfl | rfl | rfl
  · exact ⟨_, pv_lengths, .inl ⟨_, rfl, rfl⟩⟩
  · exact ⟨_, pv_size, .inr ⟨_, _, rfl, rfl⟩⟩
  · exact ⟨_, pv_fanout, .inr ⟨_, _, rfl, rfl⟩⟩
  · exact ⟨_, pv_records, .inr ⟨_, _, rfl, rfl⟩⟩
  · exact ⟨_, pv_every, .inr ⟨_, _, rfl, rfl⟩⟩
  · exact ⟨_, pv_keep, .inr ⟨_, _, rfl, rfl⟩⟩
section
variable {P : Program} {w : World} {K : PySem.W.Frag} {mg : Str → Option Value} {base : Heap}
def sp_law_begun_alike (K : PySem.W.Frag) : Sp := fun vs H Q _ => ∃ (d l : Addr) (S : Sett) (ds : List Int), vs = [.ref d, .ref l] ∧ DictAt d S H ∧ GenS S ∧ H l = some (.lst (ds.map V.int)) ∧ 20 ≤ ds.length ∧ ∀ (H' : Hp) (d' : Addr) (S' : Sett), Same H H' → DictAt d' S' H' → S'.Ok → S'.Fine → Q (.ref d') H'
theorem O_law_begun_alike (T : Tx K mg) : GF P w K mg base CX0 "_law_begun_alike" ["parts", "digits"] 1 (sp_law_begun_alike K) := by
  obtain ⟨fd, F⟩ := T.F_law_begun_alike
  refine ⟨_, fd, ?_, T.g_law_begun_alike, F.kp, F.bindsN fun _ _ _ _ _ _ us hl => match us, hl with | [_, _], _ => rfl⟩
  refine F.ok sc_law_begun_alike (fun vs H Q E h => ?_) (fun cdv A outer s H vs Q E hr h => ?_)
  · first | (obtain ⟨rfl, _⟩ := h; rfl) | (obtain ⟨_, rfl, _⟩ := h; rfl) | (obtain ⟨_, _, rfl, _⟩ := h; rfl) | (obtain ⟨_, _, _, rfl, _⟩ := h; rfl) | (obtain ⟨_, _, _, _, rfl, _⟩ := h; rfl) | (obtain ⟨_, _, _, _, _, rfl, _⟩ := h; rfl) | (obtain ⟨_, _, _, _, _, _, rfl, _⟩ := h; rfl) | (obtain ⟨_, _, _, _, _, _, _, rfl, _⟩ := h; rfl) | (obtain ⟨_, _, _, _, _, _, _, _, rfl, _⟩ := h; rfl) | (obtain ⟨_, _, _, _, _, _, _, _, _, rfl, _⟩ := h; rfl) | (obtain ⟨_, _, _, _, _, _, _, _, _, _, rfl, _⟩ := h; rfl) | (obtain ⟨_, _, _, _, _, _, _, _, _, _, _, rfl, _⟩ := h; rfl) | (obtain ⟨_, _, _, _, _, _, _, _, _, _, _, _, rfl, _⟩ := h; rfl) | (obtain ⟨_, _, _, _, _, _, _, _, _, _, _, _, _, rfl, _⟩ := h; rfl) | (obtain ⟨_, _, _, _, _, _, _, _, _, _, _, _, _, _, rfl, _⟩ := h; rfl) | (obtain ⟨_, _, _, _, _, _, _, _, _, _, _, _, _, _, _, rfl, _⟩ := h; rfl) | (obtain ⟨_, _, _, _, _, _, _, _, _, _, _, _, _, _, _, _, rfl, _⟩ := h; rfl) | (obtain ⟨_, _, _, _, _, _, _, _, _, _, _, _, _, _, _, _, _, rfl, _⟩ := h; rfl) | (obtain ⟨_, _, _, _, _, _, _, _, _, _, _, _, _, _, _, _, _, _, rfl, _⟩ := h; rfl) | (obtain ⟨_, _, _, _, _, _, _, _, _, _, _, _, _, _, _, _, _, _, _, rfl, _⟩ := h; rfl) | (obtain ⟨_, _, _, _, _, _, _, _, _, _, _, _, _, _, _, _, _, _, _, _, rfl, _⟩ := h; rfl) | (obtain ⟨_, _, _, _, _, _, _, _, _, _, _, _, _, _, _, _, _, _, _, _, _, rfl, _⟩ := h; rfl)
  · obtain ⟨d, l, S, ds, rfl, ⟨lp, hd, hpl⟩, hG, hl, hds, k⟩ := h
    have hS := hG.ok
    have hl3 := hG.l3
    have hs6 := hG.s6
    have hl1 := hS.l1
    have hs1 := hS.size1
    refine ⟨_, PSs.nox (pss_cons (ps_par (i := 2) (j := 3) (by rfl) sc_law_begun_alike.nd rfl rfl (by decide) rfl rfl (pa_cons (pe_callTy call_dictQ (by rfl) T.f_dict (by decide +kernel) (pa_cons (pv 0) pa_nil)) (pa_cons (pe_dget (hu_of hr) (pv 0) pe_str (fun _ _ => rfl)) pa_nil)) (by rfl))
  (pss_cons (ps_if (PW.pt (pw_and (pt_cmpR op_lt (pe_callB call_lenQ (by rfl) T.f_len PySem.boot_len (pa_cons (pv 3) pa_nil)) pe_int (nomark _)) (pw_and1 (pt_cmpR op_eq (pe_op op_mod (pe_callTy call_int1Q (by rfl) T.f_int (by decide +kernel) (pa_cons (pe_ix ix_list (pv 1) pe_int (fun _ _ => rfl)) pa_nil)) pe_int) pe_int (nomark _)))))
  (pss_one (ps_set (i := 3) sc_law_begun_alike.nd rfl (Or.inl rfl) (pe_op op_rep (pv 3) pe_int)))
  pss_nil)
  (pss_cons (ps_dput (hu_of hr) (pv 2) pe_str (pe_op op_cat (pv 3) (pe_lst (pa_cons (pe_op op_add pe_int (pe_op op_mod (pe_callTy call_int1Q (by rfl) T.f_int (by decide +kernel) (pa_cons (pe_ix ix_list (pv 1) pe_int (fun _ _ => rfl)) pa_nil)) (pe_dget (hu_of hr) (pv 0) pe_str (fun _ _ => rfl)))) pa_nil))) rfl)
  (pss_one (ps_ret (pv 2)))))), ?_⟩
    wtm_at "go"
    refine q_dict hd fun fd H1 nf hfd s1 => ?_
    wtm_at "go"
    refine i_dgetK (ky := .inr "lengths") (s1 _ _ hd) pv_lengths ?_
    wtm_at "go"
    refine q_lenL (s1 _ _ hpl) ?_
    rw [List.length_map]
    wtm_at "go"
    by_cases c1 : (S.lengths.length : Int) < 3
    · rw [decide_eq_true c1]
      refine iteT ?_
      wtm_at "go"
      refine i_ixL (s1 _ _ hl) (atI_lit 12 rfl (by omega)) ?_
      wtm_at "go"
      refine i_rI (by decide) ?_
      wtm_at "go"
      by_cases c2 : ds.getD 12 0 % 2 = 1
      · rw [decide_eq_true c2]
        refine iteT ?_
        wtm_at "go"
        refine q_rep2 (s1 _ _ hpl) (by rw [List.length_map]; simp only [sizeLine]; omega) fun lq Hq nq hq0 sq => ?_
        obtain ⟨lsq, elsq, hlen, hbq⟩ : ∃ lsq : List Int, (S.lengths.map V.int ++ S.lengths.map V.int) = lsq.map V.int ∧ lsq.length ≤ 4 ∧ ∀ x ∈ lsq, 1 ≤ x ∧ x ≤ S.size := ⟨S.lengths ++ S.lengths, by simp, by rw [List.length_append]; omega, fun x hx => (List.mem_append.mp hx).elim (hS.len x) (hS.len x)⟩
        rw [elsq] at hq0
        have hlq := hq0
        have smq := s1.trans sq
        have hfdq := sq _ _ hfd
        wtm_at "go"
        refine i_ixL (smq _ _ hl) (atI_lit 13 rfl (by omega)) ?_
        wtm_at "go"
        refine i_dgetK (ky := .inr "size") (smq _ _ hd) pv_size ?_
        wtm_at "go"
        refine i_rI (show (0 : Int) < S.size by omega) ?_
        wtm_at "go"
        have mz := md (ds.getD 13 0) (m := S.size) (by omega)
        refine i_lstK (of_decide_eq_true (by kernel_rfl)) fun ly Hy ny hy sy => ?_
        wtm_at "go"
        refine q_catL (sy _ _ hlq) hy (by rw [List.length_map]; show lsq.length + 1 ≤ sizeLine; simp only [sizeLine]; omega) fun lc Hc nc hc4 sc4 => ?_
        wtm_at "go"
        have hfdc := sc4 _ _ (sy _ _ hfdq)
        refine i_dputK (ky := .inr "lengths") hfdc (of_decide_eq_true (by kernel_rfl)) fun He e5 n5 => ?_
        wtm_at "go"
        have sme : Same H He := fun c o ec => (n5 c (ne_of_none ec nf)).trans (sc4 _ _ (sy _ _ (smq c o ec)))
        have hce := (n5 lc (fun z => by rw [z, sy _ _ hfdq] at nc; cases nc)).trans hc4
        have hO : ({ S with lengths := lsq ++ [1 + ds.getD 13 0 % S.size] } : Sett).Ok := { hS with l1 := by show 1 ≤ (lsq ++ [1 + ds.getD 13 0 % S.size]).length; rw [List.length_append]; simp, l6 := by show (lsq ++ [1 + ds.getD 13 0 % S.size]).length ≤ 6; rw [List.length_append]; simp; omega, len := fun x hx => (List.mem_append.mp hx).elim (hbq x) (fun h => by obtain rfl := List.mem_singleton.mp h; show 1 ≤ 1 + _ ∧ 1 + _ ≤ S.size; omega) }
        exact k He fd { S with lengths := lsq ++ [1 + ds.getD 13 0 % S.size] } sme ⟨lc, e5, by rw [hce]; simp⟩ hO (Sett.fine1 hO (show S.size ≤ 8 by omega))
      · rw [decide_eq_false c2]
        refine iteF ?_
        obtain ⟨lsq, hlsq⟩ : ∃ lsq : List Int, lsq = S.lengths := ⟨_, rfl⟩
        have hlen : lsq.length ≤ 4 := by rw [hlsq]; omega
        have hbq : ∀ x ∈ lsq, 1 ≤ x ∧ x ≤ S.size := by rw [hlsq]; exact hS.len
        have hlq : H1 lp = some (.lst (lsq.map V.int)) := by rw [hlsq]; exact s1 _ _ hpl
        have smq := s1
        have hfdq := hfd
        wtm_at "go"
        refine i_ixL (smq _ _ hl) (atI_lit 13 rfl (by omega)) ?_
        wtm_at "go"
        refine i_dgetK (ky := .inr "size") (smq _ _ hd) pv_size ?_
        wtm_at "go"
        refine i_rI (show (0 : Int) < S.size by omega) ?_
        wtm_at "go"
        have mz := md (ds.getD 13 0) (m := S.size) (by omega)
        refine i_lstK (of_decide_eq_true (by kernel_rfl)) fun ly Hy ny hy sy => ?_
        wtm_at "go"
        refine q_catL (sy _ _ hlq) hy (by rw [List.length_map]; show lsq.length + 1 ≤ sizeLine; simp only [sizeLine]; omega) fun lc Hc nc hc4 sc4 => ?_
        wtm_at "go"
        have hfdc := sc4 _ _ (sy _ _ hfdq)
        refine i_dputK (ky := .inr "lengths") hfdc (of_decide_eq_true (by kernel_rfl)) fun He e5 n5 => ?_
        wtm_at "go"
        have sme : Same H He := fun c o ec => (n5 c (ne_of_none ec nf)).trans (sc4 _ _ (sy _ _ (smq c o ec)))
        have hce := (n5 lc (fun z => by rw [z, sy _ _ hfdq] at nc; cases nc)).trans hc4
        have hO : ({ S with lengths := lsq ++ [1 + ds.getD 13 0 % S.size] } : Sett).Ok := { hS with l1 := by show 1 ≤ (lsq ++ [1 + ds.getD 13 0 % S.size]).length; rw [List.length_append]; simp, l6 := by show (lsq ++ [1 + ds.getD 13 0 % S.size]).length ≤ 6; rw [List.length_append]; simp; omega, len := fun x hx => (List.mem_append.mp hx).elim (hbq x) (fun h => by obtain rfl := List.mem_singleton.mp h; show 1 ≤ 1 + _ ∧ 1 + _ ≤ S.size; omega) }
        exact k He fd { S with lengths := lsq ++ [1 + ds.getD 13 0 % S.size] } sme ⟨lc, e5, by rw [hce]; simp⟩ hO (Sett.fine1 hO (show S.size ≤ 8 by omega))
    · rw [decide_eq_false c1]
      refine iteF ?_
      refine iteF ?_
      obtain ⟨lsq, hlsq⟩ : ∃ lsq : List Int, lsq = S.lengths := ⟨_, rfl⟩
      have hlen : lsq.length ≤ 4 := by rw [hlsq]; omega
      have hbq : ∀ x ∈ lsq, 1 ≤ x ∧ x ≤ S.size := by rw [hlsq]; exact hS.len
      have hlq : H1 lp = some (.lst (lsq.map V.int)) := by rw [hlsq]; exact s1 _ _ hpl
      have smq := s1
      have hfdq := hfd
      wtm_at "go"
      refine i_ixL (smq _ _ hl) (atI_lit 13 rfl (by omega)) ?_
      wtm_at "go"
      refine i_dgetK (ky := .inr "size") (smq _ _ hd) pv_size ?_
      wtm_at "go"
      refine i_rI (show (0 : Int) < S.size by omega) ?_
      wtm_at "go"
      have mz := md (ds.getD 13 0) (m := S.size) (by omega)
      refine i_lstK (of_decide_eq_true (by kernel_rfl)) fun ly Hy ny hy sy => ?_
      wtm_at "go"
      refine q_catL (sy _ _ hlq) hy (by rw [List.length_map]; show lsq.length + 1 ≤ sizeLine; simp only [sizeLine]; omega) fun lc Hc nc hc4 sc4 => ?_
      wtm_at "go"
      have hfdc := sc4 _ _ (sy _ _ hfdq)
      refine i_dputK (ky := .inr "lengths") hfdc (of_decide_eq_true (by kernel_rfl)) fun He e5 n5 => ?_
      wtm_at "go"
      have sme : Same H He := fun c o ec => (n5 c (ne_of_none ec nf)).trans (sc4 _ _ (sy _ _ (smq c o ec)))
      have hce := (n5 lc (fun z => by rw [z, sy _ _ hfdq] at nc; cases nc)).trans hc4
      have hO : ({ S with lengths := lsq ++ [1 + ds.getD 13 0 % S.size] } : Sett).Ok := { hS with l1 := by show 1 ≤ (lsq ++ [1 + ds.getD 13 0 % S.size]).length; rw [List.length_append]; simp, l6 := by show (lsq ++ [1 + ds.getD 13 0 % S.size]).length ≤ 6; rw [List.length_append]; simp; omega, len := fun x hx => (List.mem_append.mp hx).elim (hbq x) (fun h => by obtain rfl := List.mem_singleton.mp h; show 1 ≤ 1 + _ ∧ 1 + _ ≤ S.size; omega) }
      exact k He fd { S with lengths := lsq ++ [1 + ds.getD 13 0 % S.size] } sme ⟨lc, e5, by rw [hce]; simp⟩ hO (Sett.fine1 hO (show S.size ≤ 8 by omega))
def sp_law_long_parts (K : PySem.W.Frag) : Sp := fun vs H Q _ => ∃ (l : Addr) (ds : List Int), vs = [.ref l] ∧ H l = some (.lst (ds.map V.int)) ∧ 19 ≤ ds.length ∧ ∀ (H' : Hp) (d t : Addr) (S : Sett) (wd : Str), Same H H' → DictAt d S H' → LongS S → wd ∈ words → H' t = some (.tup [.ref d, .str wd]) → Q (.ref t) H'
theorem O_law_long_parts (T : Tx K mg) : GF P w K mg base CX0 "_law_long_parts" ["digits"] 1 (sp_law_long_parts K) := by
  obtain ⟨fd, F⟩ := T.F_law_long_parts
  refine ⟨_, fd, ?_, T.g_law_long_parts, F.kp, F.bindsN fun _ _ _ _ _ _ us hl => match us, hl with | [_], _ => rfl⟩
  refine F.ok sc_law_long_parts (fun vs H Q E h => ?_) (fun cdv A outer s H vs Q E hr h => ?_)
  · first | (obtain ⟨rfl, _⟩ := h; rfl) | (obtain ⟨_, rfl, _⟩ := h; rfl) | (obtain ⟨_, _, rfl, _⟩ := h; rfl) | (obtain ⟨_, _, _, rfl, _⟩ := h; rfl) | (obtain ⟨_, _, _, _, rfl, _⟩ := h; rfl) | (obtain ⟨_, _, _, _, _, rfl, _⟩ := h; rfl) | (obtain ⟨_, _, _, _, _, _, rfl, _⟩ := h; rfl) | (obtain ⟨_, _, _, _, _, _, _, rfl, _⟩ := h; rfl) | (obtain ⟨_, _, _, _, _, _, _, _, rfl, _⟩ := h; rfl) | (obtain ⟨_, _, _, _, _, _, _, _, _, rfl, _⟩ := h; rfl) | (obtain ⟨_, _, _, _, _, _, _, _, _, _, rfl, _⟩ := h; rfl) | (obtain ⟨_, _, _, _, _, _, _, _, _, _, _, rfl, _⟩ := h; rfl) | (obtain ⟨_, _, _, _, _, _, _, _, _, _, _, _, rfl, _⟩ := h; rfl) | (obtain ⟨_, _, _, _, _, _, _, _, _, _, _, _, _, rfl, _⟩ := h; rfl) | (obtain ⟨_, _, _, _, _, _, _, _, _, _, _, _, _, _, rfl, _⟩ := h; rfl) | (obtain ⟨_, _, _, _, _, _, _, _, _, _, _, _, _, _, _, rfl, _⟩ := h; rfl) | (obtain ⟨_, _, _, _, _, _, _, _, _, _, _, _, _, _, _, _, rfl, _⟩ := h; rfl) | (obtain ⟨_, _, _, _, _, _, _, _, _, _, _, _, _, _, _, _, _, rfl, _⟩ := h; rfl) | (obtain ⟨_, _, _, _, _, _, _, _, _, _, _, _, _, _, _, _, _, _, rfl, _⟩ := h; rfl) | (obtain ⟨_, _, _, _, _, _, _, _, _, _, _, _, _, _, _, _, _, _, _, rfl, _⟩ := h; rfl) | (obtain ⟨_, _, _, _, _, _, _, _, _, _, _, _, _, _, _, _, _, _, _, _, rfl, _⟩ := h; rfl) | (obtain ⟨_, _, _, _, _, _, _, _, _, _, _, _, _, _, _, _, _, _, _, _, _, rfl, _⟩ := h; rfl)
  · obtain ⟨l, ds, rfl, hl, hds, k⟩ := h
    refine ⟨_, PSs.nox (pss_cons (ps_set (i := 1) sc_law_long_parts.nd rfl (Or.inl rfl) (pe_disp (pps_cons pe_str (pe_lst (pa_cons pe_int pa_nil)) (pps_cons pe_str (pe_op op_add pe_int (pe_op op_mod (pe_callTy call_int1Q (by rfl) T.f_int (by decide +kernel) (pa_cons (pe_ix ix_list (pv 0) pe_int (fun _ _ => rfl)) pa_nil)) pe_int)) (pps_cons pe_str (pe_op op_add pe_int (pe_op op_mod (pe_callTy call_int1Q (by rfl) T.f_int (by decide +kernel) (pa_cons (pe_ix ix_list (pv 0) pe_int (fun _ _ => rfl)) pa_nil)) pe_int)) pps_nil))) (by rfl) (by rfl) (fun z => by cases z) (by decide)))
  (pss_cons (ps_dput (hu_of hr) (pv 1) pe_str (pe_op op_add pe_int (pe_op op_mod (pe_callTy call_int1Q (by rfl) T.f_int (by decide +kernel) (pa_cons (pe_ix ix_list (pv 0) pe_int (fun _ _ => rfl)) pa_nil)) pe_int)) rfl)
  (pss_cons (ps_dput (hu_of hr) (pv 1) pe_str (pe_op op_add pe_int (pe_op op_mod (pe_callTy call_int1Q (by rfl) T.f_int (by decide +kernel) (pa_cons (pe_ix ix_list (pv 0) pe_int (fun _ _ => rfl)) pa_nil)) pe_int)) rfl)
  (pss_cons (ps_dput (hu_of hr) (pv 1) pe_str (pe_op op_add pe_int (pe_op op_mod (pe_callTy call_int1Q (by rfl) T.f_int (by decide +kernel) (pa_cons (pe_ix ix_list (pv 0) pe_int (fun _ _ => rfl)) pa_nil)) pe_int)) rfl)
  (pss_cons (ps_set (i := 2) sc_law_long_parts.nd rfl (Or.inl rfl) (pe_ix ix_list (pe_lst (pa_cons pe_str (pa_cons pe_str (pa_cons pe_str (pa_cons pe_str (pa_cons pe_str pa_nil)))))) (pe_op op_mod (pe_callTy call_int1Q (by rfl) T.f_int (by decide +kernel) (pa_cons (pe_ix ix_list (pv 0) pe_int (fun _ _ => rfl)) pa_nil)) pe_int) (fun _ _ => rfl)))
  (pss_one (ps_ret (pe_tup (pa_cons (pv 1) (pa_cons (pv 2) pa_nil)))))))))), ?_⟩
    wtm_at "go"
    refine i_disp fun p H1 np hp1 s1 => ?_
    wtm_at "go"
    refine i_lstK (of_decide_eq_true (by kernel_rfl)) fun D H2 nD hD s2 => ?_
    have sm2 := s1.trans s2
    wtm_at "go"
    refine i_ixL (sm2 _ _ hl) (atI_lit 13 rfl (by omega)) ?_
    wtm_at "go"
    refine i_rI (by decide) ?_
    wtm_at "go"
    refine i_ixL (sm2 _ _ hl) (atI_lit 14 rfl (by omega)) ?_
    wtm_at "go"
    refine i_rI (by decide) ?_
    wtm_at "go"
    have b13 := md (ds.getD 13 0) (m := 64) (by decide)
    have b14 := md (ds.getD 14 0) (m := 6) (by decide)
    refine ⟨s2 _ _ hp1, [(.inr "lengths", .ref D), (.inr "size", .int (1 + ds.getD 13 0 % 64)), (.inr "fanout", .int (2 + ds.getD 14 0 % 6))], rfl, of_decide_eq_true (by kernel_rfl), ?_⟩
    obtain ⟨H3, eH3, hp3, n3⟩ : ∃ H3, H3 = upd H2 p (.dK (mergeK [] [(.inr "lengths", .ref D), (.inr "size", .int (1 + ds.getD 13 0 % 64)), (.inr "fanout", .int (2 + ds.getD 14 0 % 6))])) ∧ H3 p = some (.dK [(.inr "lengths", .ref D), (.inr "size", .int (1 + ds.getD 13 0 % 64)), (.inr "fanout", .int (2 + ds.getD 14 0 % 6))]) ∧ ∀ b, b ≠ p → H3 b = H2 b := ⟨_, rfl, upd_same, fun b hb => upd_ne hb⟩
    rw [← eH3]
    have npD : D ≠ p := fun z => by rw [z, hp1] at nD; cases nD
    have hD3 := (n3 _ npD).trans hD
    have s3 : Same H H3 := fun c o ec => (n3 c (ne_of_none ec np)).trans (sm2 _ _ ec)
    wtm_at "go"
    refine i_ixL (s3 _ _ hl) (atI_lit 15 rfl (by omega)) ?_
    wtm_at "go"
    refine i_rI (by decide) ?_
    wtm_at "go"
    refine i_dputK (ky := .inr "records") hp3 (of_decide_eq_true (by kernel_rfl)) fun H4 hp4 n4 => ?_
    have s4 : Same H H4 := fun c o ec => (n4 c (ne_of_none ec np)).trans (s3 _ _ ec)
    have hD4 := (n4 D npD).trans hD3
    wtm_at "go"
    refine i_ixL (s4 _ _ hl) (atI_lit 16 rfl (by omega)) ?_
    wtm_at "go"
    refine i_rI (by decide) ?_
    wtm_at "go"
    refine i_dputK (ky := .inr "every") hp4 (of_decide_eq_true (by kernel_rfl)) fun H5 hp5 n5 => ?_
    have s5 : Same H H5 := fun c o ec => (n5 c (ne_of_none ec np)).trans (s4 _ _ ec)
    have hD5 := (n5 D npD).trans hD4
    wtm_at "go"
    refine i_ixL (s5 _ _ hl) (atI_lit 17 rfl (by omega)) ?_
    wtm_at "go"
    refine i_rI (by decide) ?_
    wtm_at "go"
    refine i_dputK (ky := .inr "keep") hp5 (of_decide_eq_true (by kernel_rfl)) fun H6 hp6 n6 => ?_
    have s6 : Same H H6 := fun c o ec => (n6 c (ne_of_none ec np)).trans (s5 _ _ ec)
    have hD6 := (n6 D npD).trans hD5
    wtm_at "go"
    refine i_lstK (of_decide_eq_true (by kernel_rfl)) fun lw H7 nw hw7 s7 => ?_
    wtm_at "go"
    refine i_ixL (s7 _ _ (s6 _ _ hl)) (atI_lit 18 rfl (by omega)) ?_
    wtm_at "go"
    refine i_rI (by decide) ?_
    wtm_at "go"
    obtain ⟨wd, hwd, hx⟩ : ∃ wd : Str, wd ∈ words ∧ atI ([V.str "fanout", V.str "keep", V.str "every", V.str "records", V.str "size"]) (ds.getD 18 0 % 5) = some (.str wd) := by
      have := md (ds.getD 18 0) (m := 5) (by decide)
      rcases (show ds.getD 18 0 % 5 = 0 ∨ ds.getD 18 0 % 5 = 1 ∨ ds.getD 18 0 % 5 = 2 ∨ ds.getD 18 0 % 5 = 3 ∨ ds.getD 18 0 % 5 = 4 by omega) with e | e | e | e | e <;> rw [e]
      · exact ⟨"fanout", by simp [words], rfl⟩
      · exact ⟨"keep", by simp [words], rfl⟩
      · exact ⟨"every", by simp [words], rfl⟩
      · exact ⟨"records", by simp [words], rfl⟩
      · exact ⟨"size", by simp [words], rfl⟩
    refine i_ixL hw7 hx ?_
    wtm_at "go"
    refine i_tupK (of_decide_eq_true (by kernel_rfl)) fun t8 H8 nt8 ht8 s8 => ?_
    have b15 := md (ds.getD 15 0) (m := 15) (by decide)
    have b16 := md (ds.getD 16 0) (m := 23) (by decide)
    have b17 := md (ds.getD 17 0) (m := 99) (by decide)
    refine k H8 p t8 ⟨[1], 1 + ds.getD 13 0 % 64, 2 + ds.getD 14 0 % 6, 1 + ds.getD 15 0 % 15, 17 + ds.getD 16 0 % 23, 1 + ds.getD 17 0 % 99⟩ wd (s6.trans (s7.trans s8)) ⟨D, s8 _ _ (s7 _ _ hp6), s8 _ _ (s7 _ _ hD6)⟩ ?_ hwd ht8
    refine ⟨⟨by show 1 ≤ 1; omega, by show 1 ≤ 6; omega, fun x hx => ?_, ?_, ?_, ?_, ?_, ?_, ?_, ?_, ?_, ?_⟩, rfl, ?_, ?_, ?_, ?_, ?_⟩
    · obtain rfl := List.mem_singleton.mp hx
      show 1 ≤ 1 ∧ 1 ≤ 1 + _ % 64; omega
    · show 1 + _ % 64 ≤ 64; omega
    · show 2 ≤ 2 + _ % 6; omega
    · show 2 + _ % 6 ≤ 8; omega
    · show 1 ≤ 1 + _ % 15; omega
    · show 1 + _ % 15 ≤ 16; omega
    · show 1 ≤ 17 + _ % 23; omega
    · show 17 + _ % 23 ≤ 40; omega
    · show 1 ≤ 1 + _ % 99; omega
    · show 1 + _ % 99 ≤ 100; omega
    · show 2 + _ % 6 ≤ 7; omega
    · show 1 + _ % 15 ≤ 15; omega
    · show 17 ≤ 17 + _ % 23; omega
    · show 17 + _ % 23 ≤ 39; omega
    · show 1 + _ % 99 ≤ 99; omega
end
end K90


namespace K90
open PySem PySem.Spec PyProof.Rows L2 KR
local macro_rules | `(tactic| wtm_at "go1") => `(tactic| first
  | (with_reducible refine i_seq ?_) | ((with_reducible refine' i_var ?k1 ?_); (case k1 => exact rfl)) | (with_reducible refine i_c ?_) | (with_reducible refine i_asg ?_) | (with_reducible refine i_name ?_)
  | (with_reducible refine i_ret ?_) | (with_reducible refine i_retN ?_) | (with_reducible refine i_drop ?_) | (with_reducible refine i_next ?_) | (with_reducible refine i_op ?_) | (with_reducible refine i_rI0 ?_)
  | (with_reducible refine i_fld ?_) | (with_reducible refine i_setf ?_) | (with_reducible refine i_augf ?_) | (with_reducible refine i_meth ?_) | (with_reducible refine i_cons ?_) | (with_reducible refine i_nil ?_)
  | (with_reducible refine i_call ?_) | (with_reducible refine i_cb ?_) | (with_reducible refine i_test ?_) | (with_reducible refine i_tB ?_) | (with_reducible refine i_bl ?_) | (with_reducible refine i_not ?_)
  | (with_reducible refine i_if ?_) | (with_reducible refine i_ifE ?_) | (with_reducible refine i_andV ?_) | (with_reducible refine i_orV ?_) | (with_reducible refine i_notV ?_) | (with_reducible refine i_and ?_) | (with_reducible refine i_or ?_)
  | (with_reducible refine i_rEqI ?_) | (with_reducible refine i_rNeI ?_) | (with_reducible refine i_un ?_) | (with_reducible refine i_rU ?_) | (with_reducible refine i_chain ?_) | (with_reducible refine i_tpar ?_) | (with_reducible refine i_par ?_) | (with_reducible refine i_tpar3 ?_) | (with_reducible refine i_par3 ?_)
  | ((with_reducible refine' i_aug ?k1 ?_); (case k1 => exact rfl)) | (with_reducible refine i_ipI ?_) | (with_reducible refine i_tup ?_) | (with_reducible refine i_lst ?_) | (with_reducible refine i_bm ?_) | (with_reducible refine i_bm0 ?_)
  | (with_reducible refine i_for ?_) | (with_reducible refine i_list ?_) | (with_reducible refine i_rng1 ?_) | (with_reducible refine i_keys ?_) | (with_reducible refine i_lc ?_) | (with_reducible refine i_yes ?_) | (with_reducible refine i_dput ?_)
  | (with_reducible refine i_dget ?_) | (with_reducible refine i_din ?_) | (with_reducible refine i_dnotin ?_) | (with_reducible refine i_dget1 ?_) | (with_reducible refine i_dget2 ?_) | (with_reducible refine i_dpop2 ?_)
  | (with_reducible refine q_max2 ?_) | (with_reducible refine q_min2 ?_) | (with_reducible refine q_notN ?_) | (with_reducible refine q_isN ?_) | (with_reducible refine i_gtup ?_) | (with_reducible refine i_gcons ?_) | (with_reducible refine i_gnil ?_) | (with_reducible refine i_make ?_) | (with_reducible refine i_dnewK ?_) | (with_reducible refine i_dnewT ?_)
  | (with_reducible refine q_int1 ?_) | (with_reducible refine q_int1b ?_) | (with_reducible refine i_sl ?_) | (with_reducible refine i_npart ?_) | (with_reducible refine i_part ?_) | (with_reducible refine i_pint ?_) | (with_reducible refine i_pcons ?_) | (with_reducible refine i_pnil ?_) | (with_reducible refine i_gsub ?_) | (with_reducible refine i_makeKw ?_)
  | (with_reducible refine i_rAdd ?_) | (with_reducible refine i_rSub ?_) | (with_reducible refine i_isN ?_))
local macro_rules | `(tactic| wtm_at "go") => `(tactic| repeat (wtm_at "go1"))

theorem orJ {c : Bool} {tb : TE} {σ : L2.St} {H : Hp} {R : VK} (b : Bool) (ht : ∀ Q : VK, Q (.bl b) H → if c = true then Q (.bl true) H else tb σ H Q) (hR : R (.bl b) H) : if c = true then R (.bl true) H else tb σ H R := ht R hR
theorem wordUp_self {S : Sett} {w : Str} (hw : w ∈ words) : wordUp S w (wordV S w) = S := by
  rcases words_of hw with rfl | rfl | rfl | rfl | rfl <;> kernel_rfl
theorem wordUp_lengths {S : Sett} {w : Str} {x : Int} (hw : w ∈ words) : (wordUp S w x).lengths = S.lengths := by
  rcases words_of hw with rfl | rfl | rfl | rfl | rfl <;> kernel_rfl
theorem q_slQ {K : PySem.W.Frag} {H : Hp} {Q : VK} {a : Addr} {xs : List V} {lo hi : Option Int} (h : SqL K H a xs) (k : newK (.lst (cutV xs lo hi)) H Q) : rSlL K (.ref a) lo hi H Q := ⟨a, xs, rfl, h, newK.to k⟩
theorem q_lenQ {K : PySem.W.Frag} {H : Hp} {Q : VK} {a : Addr} {xs : List V} (h : SqL K H a xs) (k : Q (.int xs.length) H) : rLenQ K [.ref a] H Q := ⟨a, xs, rfl, .inl h, k⟩
structure UpOk (S S' : Sett) (r : Int) : Prop where
  ok : S'.Ok
  na : ¬ Alike S S'
  p : PartsAt S S' r.toNat
  r0 : 0 ≤ r
  rb : r < 460
  ne : (decide (S.size = S'.size) && (decide (S.fanout = S'.fanout) && (decide (S.recs = S'.recs) && (decide (S.every = S'.every) && decide (S.keep = S'.keep))))) = false
theorem long_all {S : Sett} (h : LongS S) {w : Str} (hw : w ∈ words) (hc : ((!decide (w = "size")) || decide (S.size < 64)) = true) : UpOk S (wordUp S w (wordV S w + 1)) (wordDue S w) := by
  have hS := h.ok
  have f2 := hS.f2
  have f7 := h.f7
  have r1 := hS.r1
  have r15 := h.r15
  have e17 := h.e17
  have e39 := h.e39
  have k1 := hS.k1
  have k99 := h.k99
  have s1 := hS.size1
  have s64 := hS.size
  rcases words_of hw with rfl | rfl | rfl | rfl | rfl
  · have e1 : wordUp S "fanout" (wordV S "fanout" + 1) = { S with fanout := S.fanout + 1 } := by kernel_rfl
    have e2 : wordDue S "fanout" = S.size * S.fanout := by kernel_rfl
    rw [e1, e2]
    have hb : S.size * S.fanout ≤ 64 * 7 := Int.mul_le_mul s64 f7 (by omega) (by omega)
    have hb0 : 0 ≤ S.size * S.fanout := Int.mul_nonneg (by omega) (by omega)
    refine ⟨{ hS with f2 := by show 2 ≤ S.fanout + 1; omega, f8 := by show S.fanout + 1 ≤ 8; omega }, fun z => absurd z.f (by show ¬ S.fanout = S.fanout + 1; omega), long_f h, hb0, by omega, ?_⟩
    have : ¬ S.fanout = S.fanout + 1 := by omega
    simp [this]
  · have e1 : wordUp S "keep" (wordV S "keep" + 1) = { S with keep := S.keep + 1 } := by kernel_rfl
    have e2 : wordDue S "keep" = S.size - 1 + S.keep := by kernel_rfl
    rw [e1, e2]
    refine ⟨{ hS with k1 := by show 1 ≤ S.keep + 1; omega, k100 := by show S.keep + 1 ≤ 100; omega }, fun z => absurd z.k (by show ¬ S.keep = S.keep + 1; omega), long_k h, by omega, by omega, ?_⟩
    have : ¬ S.keep = S.keep + 1 := by omega
    simp [this]
  · have e1 : wordUp S "every" (wordV S "every" + 1) = { S with every := S.every + 1 } := by kernel_rfl
    have e2 : wordDue S "every" = S.every - 1 := by kernel_rfl
    rw [e1, e2]
    refine ⟨{ hS with e1 := by show 1 ≤ S.every + 1; omega, e40 := by show S.every + 1 ≤ 40; omega }, fun z => absurd z.e (by show ¬ S.every = S.every + 1; omega), long_e h, by omega, by omega, ?_⟩
    have : ¬ S.every = S.every + 1 := by omega
    simp [this]
  · have e1 : wordUp S "records" (wordV S "records" + 1) = { S with recs := S.recs + 1 } := by kernel_rfl
    have e2 : wordDue S "records" = S.recs := by kernel_rfl
    rw [e1, e2]
    refine ⟨{ hS with r1 := by show 1 ≤ S.recs + 1; omega, r16 := by show S.recs + 1 ≤ 16; omega }, fun z => ?_, long_r h, by omega, by omega, ?_⟩
    · have e3 := z.r
      unfold mn at e3
      have e4 : (if S.every < S.recs then S.every else S.recs) = (if S.every < S.recs + 1 then S.every else S.recs + 1) := e3
      rw [if_neg (by omega), if_neg (by omega)] at e4
      omega
    · have : ¬ S.recs = S.recs + 1 := by omega
      simp [this]
  · have e0 : (!decide (("size" : Str) = "size")) = false := by simp
    rw [e0, Bool.false_or] at hc
    have hlt := of_decide_eq_true hc
    have e1 : wordUp S "size" (wordV S "size" + 1) = { S with size := S.size + 1 } := by kernel_rfl
    have e2 : wordDue S "size" = S.size := by kernel_rfl
    rw [e1, e2]
    have hO : ({ S with size := S.size + 1 } : Sett).Ok := { hS with len := fun x hx => (by have := hS.len x hx; show 1 ≤ x ∧ x ≤ S.size + 1; omega), size := by show S.size + 1 ≤ 64; omega }
    refine ⟨hO, fun z => ?_, long_s h hlt, by omega, by omega, ?_⟩
    · have e3 := z.a 1
      rw [long_at hS h.l, long_at hO h.l] at e3
      have e4 : (1 : Nat) * S.size = (1 : Nat) * (S.size + 1) := e3
      omega
    · have : ¬ S.size = S.size + 1 := by omega
      simp [this]
section
variable {P : Program} {w : World} {K : PySem.W.Frag} {mg : Str → Option Value} {base : Heap}
def sp_law_long_right (K : PySem.W.Frag) : Sp := fun vs H Q _ => ∃ (l : Addr) (ds : List Int), vs = [.ref l] ∧ H l = some (.lst (ds.map V.int)) ∧ 19 ≤ ds.length ∧ ∀ (H' : Hp), Same H H' → Q (.bl true) H'
theorem O_law_long_right (T : Tx K mg) : GF P w K mg base CX0 "_law_long_right" ["digits"] 8 (sp_law_long_right K) := by
  have O_law_long_parts := O_law_long_parts (P := P) (w := w) (base := base) T
  have O_law_settings := O_law_settings (P := P) (w := w) (base := base) T
  have O_first_parting := O_first_parting (P := P) (w := w) (base := base) T
  obtain ⟨fd, F⟩ := T.F_law_long_right
  refine ⟨_, fd, ?_, T.g_law_long_right, F.kp, F.bindsN fun _ _ _ _ _ _ us hl => match us, hl with | [_], _ => rfl⟩
  refine F.ok sc_law_long_right (fun vs H Q E h => ?_) (fun cdv A outer s H vs Q E hr h => ?_)
  · first | (obtain ⟨rfl, _⟩ := h; rfl) | (obtain ⟨_, rfl, _⟩ := h; rfl) | (obtain ⟨_, _, rfl, _⟩ := h; rfl) | (obtain ⟨_, _, _, rfl, _⟩ := h; rfl) | (obtain ⟨_, _, _, _, rfl, _⟩ := h; rfl) | (obtain ⟨_, _, _, _, _, rfl, _⟩ := h; rfl) | (obtain ⟨_, _, _, _, _, _, rfl, _⟩ := h; rfl) | (obtain ⟨_, _, _, _, _, _, _, rfl, _⟩ := h; rfl) | (obtain ⟨_, _, _, _, _, _, _, _, rfl, _⟩ := h; rfl) | (obtain ⟨_, _, _, _, _, _, _, _, _, rfl, _⟩ := h; rfl) | (obtain ⟨_, _, _, _, _, _, _, _, _, _, rfl, _⟩ := h; rfl) | (obtain ⟨_, _, _, _, _, _, _, _, _, _, _, rfl, _⟩ := h; rfl) | (obtain ⟨_, _, _, _, _, _, _, _, _, _, _, _, rfl, _⟩ := h; rfl) | (obtain ⟨_, _, _, _, _, _, _, _, _, _, _, _, _, rfl, _⟩ := h; rfl) | (obtain ⟨_, _, _, _, _, _, _, _, _, _, _, _, _, _, rfl, _⟩ := h; rfl) | (obtain ⟨_, _, _, _, _, _, _, _, _, _, _, _, _, _, _, rfl, _⟩ := h; rfl) | (obtain ⟨_, _, _, _, _, _, _, _, _, _, _, _, _, _, _, _, rfl, _⟩ := h; rfl) | (obtain ⟨_, _, _, _, _, _, _, _, _, _, _, _, _, _, _, _, _, rfl, _⟩ := h; rfl) | (obtain ⟨_, _, _, _, _, _, _, _, _, _, _, _, _, _, _, _, _, _, rfl, _⟩ := h; rfl) | (obtain ⟨_, _, _, _, _, _, _, _, _, _, _, _, _, _, _, _, _, _, _, rfl, _⟩ := h; rfl) | (obtain ⟨_, _, _, _, _, _, _, _, _, _, _, _, _, _, _, _, _, _, _, _, rfl, _⟩ := h; rfl) | (obtain ⟨_, _, _, _, _, _, _, _, _, _, _, _, _, _, _, _, _, _, _, _, _, rfl, _⟩ := h; rfl)
  · obtain ⟨l, ds, rfl, hl, hds, k⟩ := h
    refine ⟨_, PSs.nox (pss_cons (ps_asg (pg O_law_long_parts hr pass0 (pa_cons (pv 0) pa_nil)) (pg_tup rfl (pgs_cons (pg_name (i := 1) sc_law_long_right.nd rfl (Or.inl rfl)) (pgs_cons (pg_name (i := 2) sc_law_long_right.nd rfl (Or.inl rfl)) pgs_nil))))
  (pss_cons (ps_set (i := 3) sc_law_long_right.nd rfl (Or.inl rfl) (pe_callTy call_dictQ (by rfl) T.f_dict (by decide +kernel) (pa_cons (pv 1) pa_nil)))
  (pss_cons (ps_dput (hu_of hr) (pv 3) (pv 2) (pe_op op_add (pe_dget (hu_of hr) (pv 1) (pv 2) (fun _ _ => rfl)) (pe_callTy call_int1Q (by rfl) T.f_int (by decide +kernel) (pa_cons (pe_or (pe_cmpR op_ne (pv 2) pe_str (nomark _)) (pe_one (pe_cmpR op_lt (pe_dget (hu_of hr) (pv 1) pe_str (fun _ _ => rfl)) pe_int (nomark _)))) pa_nil))) rfl)
  (pss_cons (ps_set (i := 4) sc_law_long_right.nd rfl (Or.inl rfl) (pe_disp (pps_cons pe_str (pe_op op_sub (pe_dget (hu_of hr) (pv 1) pe_str (fun _ _ => rfl)) pe_int) (pps_cons pe_str (pe_dget (hu_of hr) (pv 1) pe_str (fun _ _ => rfl)) (pps_cons pe_str (pe_dget (hu_of hr) (pv 1) pe_str (fun _ _ => rfl)) pps_nil))) (by rfl) (by rfl) (fun z => by cases z) (by decide)))
  (pss_cons (ps_dput (hu_of hr) (pv 4) pe_str (pe_op op_mul (pe_dget (hu_of hr) (pv 1) pe_str (fun _ _ => rfl)) (pe_dget (hu_of hr) (pv 1) pe_str (fun _ _ => rfl))) rfl)
  (pss_cons (ps_dput (hu_of hr) (pv 4) pe_str (pe_op op_add (pe_op op_sub (pe_dget (hu_of hr) (pv 1) pe_str (fun _ _ => rfl)) pe_int) (pe_dget (hu_of hr) (pv 1) pe_str (fun _ _ => rfl))) rfl)
  (pss_cons (ps_set (i := 5) sc_law_long_right.nd rfl (Or.inl rfl) (pe_ifExp (pt_cmpR (op_eqDM (Nat.lt_of_le_of_lt (Nat.le_add_right _ _) hr.units)) (pv 3) (pv 1) (nomark _)) pe_non (pe_dget (hu_of hr) (pv 4) (pv 2) (fun _ _ => rfl))))
  (pss_cons (ps_par (i := 6) (j := 7) (by rfl) sc_law_long_right.nd rfl rfl (by decide) rfl rfl (pa_cons (pg O_law_settings hr pass0 (pa_cons (pv 1) pa_nil)) (pa_cons (pg O_law_settings hr pass0 (pa_cons (pv 3) pa_nil)) pa_nil)) (by rfl))
  (pss_one (ps_ret (pe_and (pe_cmpR (op_eqD hr.units) (pg O_first_parting hr pass0 (pa_cons (pv 6) (pa_cons (pv 7) pa_nil))) (pv 5) (nomark _)) (pe_one (pe_cmpR (op_eqD hr.units) (pg O_first_parting hr pass0 (pa_cons (pv 7) (pa_cons (pv 6) pa_nil))) (pv 5) (nomark _)))))))))))))), ?_⟩
    wtm_at "go"
    refine ⟨l, ds, rfl, hl, hds, fun H1 d t S wd s1 hd hL hw ht => ?_⟩
    have hS := hL.ok
    obtain ⟨lp, hd0, hlp⟩ := hd
    wtm_at "go"
    refine i_gtupK ht rfl ?_
    wtm_at "go"
    refine q_dict hd0 fun od H2 no hod s2 => ?_
    have hd2 := s2 _ _ hd0
    have hlp2 := s2 _ _ hlp
    wtm_at "go"
    refine i_dgetK (ky := .inr wd) hd2 (word_get hw) ?_
    wtm_at "go"
    refine i_rNeS ?_
    wtm_at "go"
    refine orJ ((!decide (wd = "size")) || decide (S.size < 64)) (fun Q hQ => ?_) ?_
    · by_cases hz : wd = "size"
      · rw [show (!decide (wd = "size")) = false by simp [hz]] at hQ ⊢
        rw [Bool.false_or] at hQ
        refine iteF ?_
        wtm_at "go"
        refine i_dgetK (ky := .inr "size") hd2 pv_size ?_
        wtm_at "go"
        exact hQ
      · rw [show (!decide (wd = "size")) = true by simp [hz]] at hQ ⊢
        rw [Bool.true_or] at hQ
        refine iteT hQ
    generalize hb : ((!decide (wd = "size")) || decide (S.size < 64)) = b
    wtm_at "go"
    refine i_dputK (ky := .inr wd) hod (of_decide_eq_true (by kernel_rfl)) fun H3 hod3' n3 => ?_
    obtain ⟨S', hS'⟩ : ∃ S', S' = wordUp S wd (wordV S wd + if b = true then 1 else 0) := ⟨_, rfl⟩
    have hod3 : H3 od = some (.dK (partsV lp S')) := by
      rw [hod3', word_put hw, hS']
    have s3 : Same H1 H3 := fun c o ec => (n3 c (ne_of_none ec no)).trans (s2 _ _ ec)
    clear hod3'
    have hd3 := s3 _ _ hd0
    wtm_at "go"
    refine i_disp fun rw_ H4 nr hr4 s4 => ?_
    have hd4 := s4 _ _ hd3
    wtm_at "go"
    refine i_dgetK (ky := .inr "every") hd4 pv_every ?_
    wtm_at "go"
    refine i_dgetK (ky := .inr "records") hd4 pv_records ?_
    wtm_at "go"
    refine i_dgetK (ky := .inr "size") hd4 pv_size ?_
    wtm_at "go"
    refine ⟨hr4, [(.inr "every", .int (S.every - 1)), (.inr "records", .int S.recs), (.inr "size", .int S.size)], rfl, of_decide_eq_true (by kernel_rfl), ?_⟩
    obtain ⟨H5, eH5, hr5, n5⟩ : ∃ H5, H5 = upd H4 rw_ (.dK (mergeK [] [(.inr "every", .int (S.every - 1)), (.inr "records", .int S.recs), (.inr "size", .int S.size)])) ∧ H5 rw_ = some (.dK [(.inr "every", .int (S.every - 1)), (.inr "records", .int S.recs), (.inr "size", .int S.size)]) ∧ ∀ b, b ≠ rw_ → H5 b = H4 b := ⟨_, rfl, upd_same, fun b hb => upd_ne hb⟩
    rw [← eH5]
    have s5 : Same H3 H5 := fun c o ec => (n5 c (ne_of_none ec nr)).trans (s4 _ _ ec)
    wtm_at "go"
    refine i_dgetK (ky := .inr "size") (s5 _ _ hd3) pv_size ?_
    wtm_at "go"
    refine i_dgetK (ky := .inr "fanout") (s5 _ _ hd3) pv_fanout ?_
    have s1' := hS.size1
    have s64 := hS.size
    refine i_rI (.inl ⟨by omega, by omega⟩) ?_
    wtm_at "go"
    refine i_dputK (ky := .inr "fanout") hr5 (of_decide_eq_true (by kernel_rfl)) fun H6 hr6 n6 => ?_
    have s6 : Same H3 H6 := fun c o ec => (n6 c (ne_of_none ec nr)).trans (s5 _ _ ec)
    wtm_at "go"
    refine i_dgetK (ky := .inr "size") (s6 _ _ hd3) pv_size ?_
    wtm_at "go"
    refine i_dgetK (ky := .inr "keep") (s6 _ _ hd3) pv_keep ?_
    wtm_at "go"
    refine i_dputK (ky := .inr "keep") hr6 (of_decide_eq_true (by kernel_rfl)) fun H7 hr7 n7 => ?_
    have s7 : Same H3 H7 := fun c o ec => (n7 c (ne_of_none ec nr)).trans (s6 _ _ ec)
    have hrow : H7 rw_ = some (.dK (rowsV S)) := hr7
    wtm_at "go"
    have hd7 := s7 _ _ hd3
    have hod7 := s7 _ _ hod3
    have hlp7 := s7 _ _ (s3 _ _ hlp)
    have sm7 := s1.trans (s3.trans s7)
    refine ⟨od, d, _, _, rfl, rfl, hod7, hd7, rfl, mem_partsV, ?_⟩
    rw [eq_parts]
    cases b with
    | false =>
      have e : S' = S := by rw [hS', if_neg (by decide), Int.add_zero, wordUp_self hw]
      subst e
      simp only [decide_true, Bool.and_true]
      wtm_at "go"
      refine iteT ?_
      wtm_at "go"
      refine ⟨d, S', rfl, ⟨lp, hd7, hlp7⟩, hS, fun H8 p1 t1 s8 h1 => ?_⟩
      wtm_at "go"
      refine ⟨od, S', rfl, ⟨lp, s8 _ _ hod7, s8 _ _ hlp7⟩, hS, fun H9 p2 t2 s9 h2 => ?_⟩
      have h1' := h1.same s9
      wtm_at "go"
      refine ⟨p1, p2, t1, t2, S', S', 460, rfl, h1', h2, good_of hS, good_of hS, fun z => absurd (alike_refl S') z, fun H10 s10 => ⟨fun _ => ?_, fun r _ z => absurd (alike_refl S') z⟩⟩
      wtm_at "go"
      refine q_eqNon ?_
      wtm_at "go"
      refine iteT ?_
      wtm_at "go"
      refine ⟨p2, p1, t2, t1, S', S', 460, rfl, h2.same s10, h1'.same s10, good_of hS, good_of hS, fun z => absurd (alike_refl S') z, fun H11 s11 => ⟨fun _ => ?_, fun r _ z => absurd (alike_refl S') z⟩⟩
      wtm_at "go"
      refine q_eqNon ?_
      exact k H11 (sm7.trans (s8.trans (s9.trans (s10.trans s11))))
    | true =>
      have hlen : S'.lengths = S.lengths := by rw [hS']; exact wordUp_lengths hw
      have hU : UpOk S S' (wordDue S wd) := by
        rw [hS', if_pos rfl]
        exact long_all hL hw hb
      obtain ⟨hok, hna, hp, r0, rb, hne⟩ := hU
      rw [hne]
      wtm_at "go"
      refine iteF ?_
      wtm_at "go"
      refine i_dgetK (ky := .inr wd) hrow (word_due hw) ?_
      wtm_at "go"
      refine ⟨d, S, rfl, ⟨lp, hd7, hlp7⟩, hS, fun H8 p1 t1 s8 h1 => ?_⟩
      wtm_at "go"
      refine ⟨od, S', rfl, ⟨lp, s8 _ _ hod7, by rw [hlen]; exact s8 _ _ hlp7⟩, hok, fun H9 p2 t2 s9 h2 => ?_⟩
      have h1' := h1.same s9
      wtm_at "go"
      refine ⟨p1, p2, t1, t2, S, S', 460, rfl, h1', h2, good_of hS, good_of hok, fun _ => ⟨_, by omega, hp⟩, fun H10 s10 => ⟨fun z => absurd z hna, fun r _ _ hr2 => ?_⟩⟩
      obtain rfl := parts_one hp hr2
      wtm_at "go"
      refine q_eqIntD ?_
      rw [decide_eq_true (show (((wordDue S wd).toNat : Nat) : Int) = wordDue S wd by omega)]
      wtm_at "go"
      refine iteT ?_
      wtm_at "go"
      refine ⟨p2, p1, t2, t1, S', S, 460, rfl, h2.same s10, h1'.same s10, good_of hok, good_of hS, fun _ => ⟨_, by omega, parts_symm hp⟩, fun H11 s11 => ⟨fun z => absurd (alike_symm z) hna, fun r _ _ hr2 => ?_⟩⟩
      obtain rfl := parts_one (parts_symm hp) hr2
      wtm_at "go"
      refine q_eqIntD ?_
      rw [decide_eq_true (show (((wordDue S wd).toNat : Nat) : Int) = wordDue S wd by omega)]
      exact k H11 (sm7.trans (s8.trans (s9.trans (s10.trans s11))))
def sp_law (K : PySem.W.Frag) : Sp := fun vs H Q _ => ∃ (a : Addr) (ns : List Int), vs = [.ref a] ∧ SqL K H a (ns.map V.int) ∧ ns.length ≤ 63 ∧ ∀ (H' : Hp), Q (.bl true) H'
theorem O_law (T : Tx K mg) : ∀ fd, FnP K "law" "law" s_law (He.ga K "law") fd → FnOk P w K mg base CX0 9 (He.ga K "law") fd ["script"] (sp_law K) := by
  have O_law_digits := O_law_digits (P := P) (w := w) (base := base) T
  have O_law_parts := O_law_parts (P := P) (w := w) (base := base) T
  have O_law_settings := O_law_settings (P := P) (w := w) (base := base) T
  have O_law_changed := O_law_changed (P := P) (w := w) (base := base) T
  have O_law_begun_alike := O_law_begun_alike (P := P) (w := w) (base := base) T
  have O_law_first_unlike := O_law_first_unlike (P := P) (w := w) (base := base) T
  have O_law_long_right := O_law_long_right (P := P) (w := w) (base := base) T
  have O_first_parting := O_first_parting (P := P) (w := w) (base := base) T
  intro fd F
  refine F.ok sc_law (fun vs H Q E h => ?_) (fun cdv A outer s H vs Q E hr h => ?_)
  · first | (obtain ⟨rfl, _⟩ := h; rfl) | (obtain ⟨_, rfl, _⟩ := h; rfl) | (obtain ⟨_, _, rfl, _⟩ := h; rfl) | (obtain ⟨_, _, _, rfl, _⟩ := h; rfl) | (obtain ⟨_, _, _, _, rfl, _⟩ := h; rfl) | (obtain ⟨_, _, _, _, _, rfl, _⟩ := h; rfl) | (obtain ⟨_, _, _, _, _, _, rfl, _⟩ := h; rfl) | (obtain ⟨_, _, _, _, _, _, _, rfl, _⟩ := h; rfl) | (obtain ⟨_, _, _, _, _, _, _, _, rfl, _⟩ := h; rfl) | (obtain ⟨_, _, _, _, _, _, _, _, _, rfl, _⟩ := h; rfl) | (obtain ⟨_, _, _, _, _, _, _, _, _, _, rfl, _⟩ := h; rfl) | (obtain ⟨_, _, _, _, _, _, _, _, _, _, _, rfl, _⟩ := h; rfl) | (obtain ⟨_, _, _, _, _, _, _, _, _, _, _, _, rfl, _⟩ := h; rfl) | (obtain ⟨_, _, _, _, _, _, _, _, _, _, _, _, _, rfl, _⟩ := h; rfl) | (obtain ⟨_, _, _, _, _, _, _, _, _, _, _, _, _, _, rfl, _⟩ := h; rfl) | (obtain ⟨_, _, _, _, _, _, _, _, _, _, _, _, _, _, _, rfl, _⟩ := h; rfl) | (obtain ⟨_, _, _, _, _, _, _, _, _, _, _, _, _, _, _, _, rfl, _⟩ := h; rfl) | (obtain ⟨_, _, _, _, _, _, _, _, _, _, _, _, _, _, _, _, _, rfl, _⟩ := h; rfl) | (obtain ⟨_, _, _, _, _, _, _, _, _, _, _, _, _, _, _, _, _, _, rfl, _⟩ := h; rfl) | (obtain ⟨_, _, _, _, _, _, _, _, _, _, _, _, _, _, _, _, _, _, _, rfl, _⟩ := h; rfl) | (obtain ⟨_, _, _, _, _, _, _, _, _, _, _, _, _, _, _, _, _, _, _, _, rfl, _⟩ := h; rfl) | (obtain ⟨_, _, _, _, _, _, _, _, _, _, _, _, _, _, _, _, _, _, _, _, _, rfl, _⟩ := h; rfl)
  · obtain ⟨a, ns, rfl, hs, hns, k⟩ := h
    refine ⟨_, PSs.nox (pss_cons (ps_for PassesOwn.never rfl (pi_list (pe_op op_cat (pe_slice sl_list (pv 0) po_none (po_some pe_int)) (pe_slice sl_list (pe_lst (pa_cons pe_int pa_nil)) (po_some (pe_callB call_lenQ (by rfl) T.f_len PySem.boot_len (pa_cons (pv 0) pa_nil))) po_none))) (pg_name (i := 1) sc_law.nd rfl (Or.inl rfl))
  (pss_cons (ps_set (i := 2) sc_law.nd rfl (Or.inl rfl) (pg O_law_digits hr pass0 (pa_cons (pv 1) (pa_cons pe_int pa_nil))))
  (pss_cons (ps_set (i := 3) sc_law.nd rfl (Or.inl rfl) (pg O_law_parts hr pass0 (pa_cons (pv 2) pa_nil)))
  (pss_cons (ps_set (i := 4) sc_law.nd rfl (Or.inl rfl) (pg O_law_settings hr pass0 (pa_cons (pv 3) pa_nil)))
  (pss_cons (ps_if (PW.pt (pw_or (pt_not (pt_val (pg O_law_long_right hr pass0 (pa_cons (pv 2) pa_nil)))) (pw_or1 (pt_not (pt_val (pg O_law_long_right hr pass0 (pa_cons (pe_slice sl_list (pv 2) (po_some pe_int) po_none) pa_nil)))))))
  (pss_one (ps_ret pe_bl))
  pss_nil)
  (pss_cons (ps_set (i := 5) sc_law.nd rfl (Or.inl rfl) (pe_lst (pa_cons (pg O_law_changed hr pass0 (pa_cons (pv 3) (pa_cons (pv 2) pa_nil))) (pa_cons (pg O_law_parts hr pass0 (pa_cons (pe_op op_cat (pe_slice sl_list (pv 2) (po_some pe_int) po_none) (pe_slice sl_list (pv 2) po_none (po_some pe_int))) pa_nil)) (pa_cons (pv 3) pa_nil)))))
  (pss_one (ps_for PassesOwn.never rfl (pi_list (pe_op op_cat (pv 5) (pe_lst (pa_cons (pg O_law_begun_alike hr pass0 (pa_cons (pv 3) (pa_cons (pv 2) pa_nil))) pa_nil)))) (pg_name (i := 6) sc_law.nd rfl (Or.inl rfl))
  (pss_cons (ps_set (i := 7) sc_law.nd rfl (Or.inl rfl) (pg O_law_settings hr pass0 (pa_cons (pv 6) pa_nil)))
  (pss_cons (ps_set (i := 8) sc_law.nd rfl (Or.inl rfl) (pg O_law_first_unlike hr pass0 (pa_cons (pv 4) (pa_cons (pv 7) (pa_cons pe_int pa_nil)))))
  (pss_one (ps_if (PW.pt (pw_or (pt_cmpR (op_neD hr.units) (pg O_first_parting hr pass0 (pa_cons (pv 4) (pa_cons (pv 7) pa_nil))) (pv 8) (nomark _)) (pw_or1 (pt_cmpR (op_neD hr.units) (pg O_first_parting hr pass0 (pa_cons (pv 7) (pa_cons (pv 4) pa_nil))) (pv 8) (nomark _)))))
  (pss_one (ps_ret pe_bl))
  pss_nil))))))))))))
  (pss_one (ps_ret pe_bl))), ?_⟩
    wtm_at "go"
    refine q_slQ hs fun l1 H1 nl1 hl1 s1 => ?_
    rw [show (3 : Int) = ((3 : Nat) : Int) from rfl, cut_to] at hl1
    wtm_at "go"
    refine i_lstK (of_decide_eq_true (by kernel_rfl)) fun l2 H2 nl2 hl2 s2 => ?_
    wtm_at "go"
    refine q_lenQ (s2.seq (s1.seq hs)) ?_
    wtm_at "go"
    refine q_slL hl2 fun l3 H3 nl3 hl3 s3 => ?_
    rw [List.length_map, cut_at] at hl3
    wtm_at "go"
    obtain ⟨cs, hcs, hcl⟩ : ∃ cs : List Int, (ns.map V.int).take 3 ++ ([V.int 19] : List V).drop ns.length = cs.map V.int ∧ cs.length ≤ 4 := by
      refine ⟨ns.take 3 ++ ([19] : List Int).drop ns.length, by simp, ?_⟩
      simp only [List.length_append, List.length_take, List.length_drop, List.length_singleton]
      omega
    refine q_catL (s3 _ _ (s2 _ _ hl1)) hl3 ?_ fun lc H4 nl4 hl4 s4 => ?_
    · have := congrArg List.length hcs
      rw [List.length_append, List.length_map] at this
      simp only [sizeLine]
      omega
    rw [hcs] at hl4
    refine i_listK (SqL.of hl4) ?_
    refine i_forK (walk_list (xs := cs.map V.int)) (fun i σ H' => Same H4 H' ∧ ∃ v1 v2 v3 v4 v5 v6 v7 v8, σ = [some (.ref a), v1, v2, v3, v4, v5, v6, v7, v8]) ⟨Same.refl _, _, _, _, _, _, _, _, _, rfl⟩ (fun i σ H' _ ⟨s, _⟩ => SqL.of (s _ _ hl4)) ?_ ?_
    · rintro i x σ H5 H5' hi ⟨s5, v1, v2, v3, v4, v5, v6, v7, v8, rfl⟩ ⟨ee, hx⟩
      subst ee
      rw [List.getElem?_map] at hx
      obtain ⟨c, hc, rfl⟩ := Option.map_eq_some_iff.mp hx
      wtm_at "go"
      refine ⟨c, 40, rfl, by decide, fun H6 ld ds s6 hld hds => ?_⟩
      wtm_at "go"
      refine ⟨ld, ds, rfl, hld, by omega, fun H7 d S s7 hd hG => ?_⟩
      have hS := hG.ok
      have hF := Sett.fine1 hS (by have := hG.s6; omega)
      wtm_at "go"
      refine ⟨d, S, rfl, hd, hS, fun H8 p1 t1 s8 h1 => ?_⟩
      have hld8 := s8 _ _ (s7 _ _ hld)
      wtm_at "go"
      refine ⟨ld, ds, rfl, hld8, by omega, fun H9 s9 => ?_⟩
      wtm_at "go"
      refine iteF ?_
      wtm_at "go"
      have hld9 := s9 _ _ hld8
      refine q_slL hld9 fun l10 H10 n10 hl10 s10 => ?_
      rw [cut_from, ← List.map_drop] at hl10
      wtm_at "go"
      refine ⟨l10, ds.drop 1, rfl, hl10, by rw [List.length_drop]; omega, fun H11 s11 => ?_⟩
      wtm_at "go"
      refine iteF ?_
      wtm_at "go"
      have s711 := s8.trans (s9.trans (s10.trans s11))
      have hd11 := hd.same s711
      have hld11 := s11 _ _ (s10 _ _ hld9)
      refine ⟨d, ld, S, ds, rfl, hd11, hG, hld11, by omega, fun H12 d2 S2 s12 hd2 hO2 hF2 => ?_⟩
      wtm_at "go"
      have hld12 := s12 _ _ hld11
      refine q_slL hld12 fun l13 H13 n13 hl13 s13 => ?_
      rw [show (20 : Int) = ((20 : Nat) : Int) from rfl, cut_at, ← List.map_drop] at hl13
      wtm_at "go"
      refine q_slL (s13 _ _ hld12) fun l14 H14 n14 hl14 s14 => ?_
      rw [show (20 : Int) = ((20 : Nat) : Int) from rfl, cut_to, ← List.map_take] at hl14
      wtm_at "go"
      refine q_catL (s14 _ _ hl13) hl14 (by simp only [List.length_map, List.length_drop, List.length_take, sizeLine]; omega) fun l15 H15 n15 hl15 s15 => ?_
      rw [← List.map_append] at hl15
      wtm_at "go"
      refine ⟨l15, _, rfl, hl15, by simp only [List.length_append, List.length_drop, List.length_take]; omega, fun H16 d3 S3 s16 hd3 hG3 => ?_⟩
      have hF3 := Sett.fine1 hG3.ok (by have := hG3.s6; omega)
      wtm_at "go"
      have s1216 := s13.trans (s14.trans (s15.trans s16))
      refine i_lstK (of_decide_eq_true (by kernel_rfl)) fun lm H17 nm hm17 s17 => ?_
      have s1117 := s12.trans (s1216.trans s17)
      wtm_at "go"
      refine ⟨d, ld, S, ds, rfl, hd11.same s1117, hG, s1117 _ _ hld11, by omega, fun H18 d4 S4 s18 hd4 hO4 hF4 => ?_⟩
      wtm_at "go"
      refine i_lstK (of_decide_eq_true (by kernel_rfl)) fun ln H19 nn hn19 s19 => ?_
      refine q_catL (s19 _ _ (s18 _ _ hm17)) hn19 (of_decide_eq_true (by kernel_rfl)) fun lo H20 no20 ho20 s20 => ?_
      have ho20' : H20 lo = some (.lst [.ref d2, .ref d3, .ref d, .ref d4]) := ho20
      have s1820 := s19.trans s20
      have s1720 := s18.trans s1820
      have hd2' := hd2.same (s1216.trans (s17.trans s1720))
      have hd3' := hd3.same (s17.trans s1720)
      have hd' := hd11.same (s1117.trans s1720)
      have hd4' := hd4.same s1820
      have h1' := h1.same ((s9.trans (s10.trans s11)).trans (s1117.trans s1720))
      have s520 : Same H5' H20 := s6.trans (s7.trans (s711.trans (s1117.trans s1720)))
      refine i_listK (SqL.of ho20') ?_
      refine i_forK (walk_list (xs := [.ref d2, .ref d3, .ref d, .ref d4])) (fun i σ H' => Same H20 H' ∧ ∃ v6 v7 v8, σ = [some (.ref a), some (.int c), some (.ref ld), some (.ref d), some (.ref p1), some (.ref lm), v6, v7, v8]) ⟨Same.refl _, _, _, _, rfl⟩ (fun i σ H' _ ⟨s, _⟩ => SqL.of (s _ _ ho20')) ?_ ?_
      · rintro j x σ H21 H21' hj ⟨s21, v6, v7, v8, rfl⟩ ⟨ee, hx⟩
        subst ee
        obtain ⟨dx, Sx, rfl, hDx, hOx, hFx⟩ : ∃ dx Sx, x = .ref dx ∧ DictAt dx Sx H20 ∧ Sx.Ok ∧ Sx.Fine := by
          have hj4 : j < 4 := hj
          rcases (show j = 0 ∨ j = 1 ∨ j = 2 ∨ j = 3 by omega) with rfl | rfl | rfl | rfl <;> cases hx
          · exact ⟨d2, S2, rfl, hd2', hO2, hF2⟩
          · exact ⟨d3, S3, rfl, hd3', hG3.ok, hF3⟩
          · exact ⟨d, S, rfl, hd', hS, hF⟩
          · exact ⟨d4, S4, rfl, hd4', hO4, hF4⟩
        clear hx
        wtm_at "go"
        refine ⟨dx, Sx, rfl, hDx.same s21, hOx, fun H22 p2 t2 s22 h2 => ?_⟩
        have h1a := h1'.same (s21.trans s22)
        have g1 := good_of hS
        have g2 := good_of hOx
        wtm_at "go"
        refine ⟨p1, p2, t1, t2, S, Sx, 300, rfl, h1a, h2, by decide, fun k hk => g1 k (by omega), fun k hk => g2 k (by omega), fun H23 s23 => ?_⟩
        refine ⟨fun hev => ?_, fun r hr hp => ?_⟩
        · have hal : Alike S Sx := Classical.byContradiction fun hn => by
            obtain ⟨r, hr, hp⟩ := apart_of hS hOx hF hFx hn
            exact hp.2 (hev r hr)
          wtm_at "go"
          refine ⟨p1, p2, t1, t2, S, Sx, 460, rfl, h1a.same s23, h2.same s23, g1, g2, fun z => absurd hal z, fun H24 s24 => ⟨fun _ => ?_, fun r _ z => absurd hal z⟩⟩
          wtm_at "go"
          refine q_neNon ?_
          wtm_at "go"
          refine iteF ?_
          wtm_at "go"
          refine ⟨p2, p1, t2, t1, Sx, S, 460, rfl, (h2.same s23).same s24, (h1a.same s23).same s24, g2, g1, fun z => absurd (alike_symm hal) z, fun H25 s25 => ⟨fun _ => ?_, fun r _ z => absurd (alike_symm hal) z⟩⟩
          wtm_at "go"
          refine q_neNon ?_
          wtm_at "go"
          refine iteF ?_
          wtm_at "go"
          exact ⟨s21.trans (s22.trans (s23.trans (s24.trans s25))), _, _, _, rfl⟩
        · have hna : ¬ Alike S Sx := fun z => hp.2 (alike_evs z hS hOx r)
          wtm_at "go"
          refine ⟨p1, p2, t1, t2, S, Sx, 460, rfl, h1a.same s23, h2.same s23, g1, g2, fun _ => ⟨r, by omega, hp⟩, fun H24 s24 => ⟨fun z => absurd z hna, fun r2 _ _ hp2 => ?_⟩⟩
          obtain rfl := parts_one hp hp2
          wtm_at "go"
          refine q_neIntD ?_
          rw [decide_eq_true rfl]
          wtm_at "go"
          refine iteF ?_
          wtm_at "go"
          refine ⟨p2, p1, t2, t1, Sx, S, 460, rfl, (h2.same s23).same s24, (h1a.same s23).same s24, g2, g1, fun _ => ⟨r, by omega, parts_symm hp⟩, fun H25 s25 => ⟨fun z => absurd (alike_symm z) hna, fun r2 _ _ hp2 => ?_⟩⟩
          obtain rfl := parts_one (parts_symm hp) hp2
          wtm_at "go"
          refine q_neIntD ?_
          rw [decide_eq_true rfl]
          wtm_at "go"
          refine iteF ?_
          wtm_at "go"
          exact ⟨s21.trans (s22.trans (s23.trans (s24.trans s25))), _, _, _, rfl⟩
      · rintro σ H21 ⟨s21, v6, v7, v8, rfl⟩
        wtm_at "go"
        exact ⟨s5.trans (s520.trans s21), _, _, _, _, _, _, _, _, rfl⟩
    · rintro σ H5 ⟨s5, v1, v2, v3, v4, v5, v6, v7, v8, rfl⟩
      wtm_at "go"
      exact k H5
end
end K90


open PySem PySem.W PySem.Calls PyProof.Rows
theorem PySem.Challenge.cw_keeprows_k90_where_stores_part_holds : PySem.Challenge.rw_keeprows_k90_where_stores_part.Holds := by
  w_on; o_law
  refine HandSHeadRun.head_any (r := OpenLaw.row PySem.Challenge.rw_keeprows_k90_where_stores_part) (q := view (OpenLaw.row PySem.Challenge.rw_keeprows_k90_where_stores_part).prog [41]) (H := K90.hk) (ob := K90.ob) (M := 20000) (loose := K90.loose) (d := HandSHeadRun.topDef (OpenLaw.row PySem.Challenge.rw_keeprows_k90_where_stores_part).prog 41) (kwd := []) K90.ob_eq
    (by kernel_rfl) (fun s => by kernel_rfl) K90.run (by kernel_rfl) (by kernel_rfl) (by kernel_rfl) (by rfl) (by first | assumption | decide +kernel) (by decide +kernel) ⟨rfl, rfl, rfl, rfl, rfl, by decide +kernel⟩ ?hw ?hc
  case hw => w_witness2
  case hc =>
    refine L2.walk_ofE (l := PySem.Challenge.rw_keeprows_k90_where_stores_part) (n := 63) (k := 9) (x := "script") (CX := L2.CX0) rfl (by decide) (by kernel_rfl) ⟨rfl, by decide, by decide⟩ ?F (fun _ _ _ _ z => z)
    intro w mg fa h Y G hmg0
    obtain ⟨K, KX, c, ex⟩ := Y
    have hmg : mg ("law" : PySem.Str) = some (.ref fa) := by
      have e : (HandSHeadRun.topDef (OpenLaw.row PySem.Challenge.rw_keeprows_k90_where_stores_part).prog 41).name = ("law" : PySem.Str) := by kernel_rfl
      rw [← e]
      exact hmg0
    have T := K90.tx_of KX G c ex
    obtain ⟨fd, F⟩ := T.F_law
    have e := hmg.symm.trans T.g_law
    cases e
    have b := L2.FunD.bindsA (ps := ["script"]) F fun _ _ _ _ _ _ us hl => match us, hl with | [_], _ => rfl
    exact ⟨K, fd, K90.sp_law K, KX, fun s v => b s [v] rfl, fun H a ns hl _ hS => ⟨a, ns, rfl, hS, hl, fun _ => rfl⟩, fun base _ _ => K90.O_law T fd F⟩

