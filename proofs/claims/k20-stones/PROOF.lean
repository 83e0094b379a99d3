import PyProof.Rows.All
import Wide.All
import OpenK.AllK
import Wide.FinOn
import HandS.ForMost
import HandS.ForExc
import HandS.Defaults
import HandS.MakeKw
import HandS.Style
import HandS.NoneIn
import HandS.Sort
import HandS.TupAny
import HandS.TupMul
import HandS.Wide
import HandS.IsInst
import HandS.Conv
import HandS.StrMore
import HandS.SortKw
import HandS.Flow
import HandS.More
import HandS.HeadEnd
import HandS.HeadHook1
import HandS.HeadHook2
import HandS.Head0
import HandS.Head1
import HandS.Head2
import KE.GoesEnum
import KE.GoesMore
import PySem.Challenge.RW_littlemasters_k20_stones_that_wear
set_option Elab.async false
set_option linter.all false
set_option maxRecDepth 100000
set_option maxHeartbeats 4000000
namespace LM
open PySem PySem.Spec PyProof.Rows L2
/-! ### binding, its values hidden -/
def BindsD (K : PySem.W.Frag) (fd : FuncData) (ps : List Str) (dvs : List V) : Prop := ∃ ds, Vals dvs ds ∧ Binds K fd ps ds
theorem BindsD.of {K : PySem.W.Frag} {fd : FuncData} {ps : List Str} (h : Binds K fd ps []) : BindsD K fd ps [] := ⟨[], .nil, h⟩
/-- n values and keywords ks, put in the parameters' order by gV -/
def KBnD (K : PySem.W.Frag) (fd : FuncData) (ps : List Str) (n : Nat) (ks : List Str) (gV : List V → List V → List V) : Prop := ∃ g, KBn K fd ps n ks g gV
section
variable {X : Cx} {CX : CXT} {k n : Nat} {f C : Addr} {fd : FuncData} {ps ks : List Str} {sp : Sp} {dvs : List V} {E : XK} {x m : Str} {p pos apos : Pos} {e o : Expr} {es : List Expr} {kws : List Keyword} {ta : TE} {t tk : TA} {gV : List V → List V → List V}
theorem pe_callD (F : FnOk X.prog X.w X.K X.mg X.base CX k f fd ps sp) (hr : Room k X.A) (hg : Gl X x) (hm : X.mg x = some (.ref f)) (hk : PySem.W.keepIn X.K (.ref f) = true) (hb : BindsD X.K fd ps dvs) (hx : Passes CX X E)
    (ha : PA X (e :: es) t) (hdb : (x == ("__debug__" : Str)) = false := by decide) (he : starEach (e :: es) X.env = (false, eval e X.env) :: starEach es X.env := by rfl) (hpl : (backTo pos (starEach es X.env)).any (·.1) = false := by rfl) :
    PE X (.Call (.Name x p) (e :: es) [] pos) (tCall sp dvs E t) := by
  obtain ⟨ds, hd, hb⟩ := hb
  exact pe_call F hr hg hm hk hb hd hx ha hdb he hpl
theorem pe_callD0 (F : FnOk X.prog X.w X.K X.mg X.base CX k f fd ps sp) (hr : Room k X.A) (hg : Gl X x) (hm : X.mg x = some (.ref f)) (hk : PySem.W.keepIn X.K (.ref f) = true) (hb : BindsD X.K fd ps dvs) (hx : Passes CX X E)
    (hdb : (x == ("__debug__" : Str)) = false := by decide) : PE X (.Call (.Name x p) [] [] pos) (tCall sp dvs E tNil) := by
  obtain ⟨ds, hd, hb⟩ := hb
  exact pe_call0 F hr hg hm hk hb hd hx hdb
theorem pe_makeD (M : Mk X.K C f) (F : FnOk X.prog X.w X.K X.mg X.base CX k f fd ps sp) (hr : Room (k + 1) X.A) (hg : Gl X x) (hm : X.mg x = some (.ref C)) (hb : BindsD X.K fd ps dvs) (hx : Passes CX X E)
    (ha : PA X (e :: es) t) (hdb : (x == ("__debug__" : Str)) = false := by decide) (he : starEach (e :: es) X.env = (false, eval e X.env) :: starEach es X.env := by rfl) (hpl : (backTo pos (starEach es X.env)).any (·.1) = false := by rfl) :
    PE X (.Call (.Name x p) (e :: es) [] pos) (tMake C sp dvs E t) := by
  obtain ⟨ds, hd, hb⟩ := hb
  exact pe_make M F hr hg hm hb hd hx ha hdb he hpl
theorem pe_makeD0 (M : Mk X.K C f) (F : FnOk X.prog X.w X.K X.mg X.base CX k f fd ps sp) (hr : Room (k + 1) X.A) (hg : Gl X x) (hm : X.mg x = some (.ref C)) (hb : BindsD X.K fd ps dvs) (hx : Passes CX X E)
    (hdb : (x == ("__debug__" : Str)) = false := by decide) : PE X (.Call (.Name x p) [] [] pos) (tMake C sp dvs E tNil) := by
  obtain ⟨ds, hd, hb⟩ := hb
  exact pe_make0 M F hr hg hm hb hd hx hdb
theorem pe_methD {pl : Sem Bool} (he : PE X o ta) (c : Cls X.K C) (hm : Meth X.K C m f) (F : FnOk X.prog X.w X.K X.mg X.base CX k f fd ps sp) (hr : Room k X.A) (hb : BindsD X.K fd ps dvs) (hx : Passes CX X E) (ha : PA X (e :: es) t)
    (hst : starEach (e :: es) X.env = (false, eval e X.env) :: starEach es X.env := by rfl) (hpl : (backTo pos (starEach es X.env)).any (·.1) = false := by rfl)
    (ht : eval (.Call (.Attribute o m apos) (e :: es) [] pos) X.env = (do
      let ov ← eval o X.env
      standAt apos.atName
      let (f, first) ← holding [ov] (getMethod ov m pl)
      callWith pos f first (backTo pos (starEach (e :: es) X.env)) (backToKw pos (keywordEach [] X.env))) := by rfl) :
    PE X (.Call (.Attribute o m apos) (e :: es) [] pos) (tMeth C m sp dvs E ta t) := by
  obtain ⟨ds, hd, hb⟩ := hb
  exact pe_meth he c hm F hr hb hd hx ha hst hpl ht
theorem pe_methD0 {pl : Sem Bool} (he : PE X o ta) (c : Cls X.K C) (hm : Meth X.K C m f) (F : FnOk X.prog X.w X.K X.mg X.base CX k f fd ps sp) (hr : Room k X.A) (hb : BindsD X.K fd ps dvs) (hx : Passes CX X E)
    (ht : eval (.Call (.Attribute o m apos) [] [] pos) X.env = (do
      let ov ← eval o X.env
      standAt apos.atName
      let (f, first) ← holding [ov] (getMethod ov m pl)
      callWith pos f first (backTo pos (starEach [] X.env)) (backToKw pos (keywordEach [] X.env))) := by rfl) :
    PE X (.Call (.Attribute o m apos) [] [] pos) (tMeth C m sp dvs E ta tNil) := by
  obtain ⟨ds, hd, hb⟩ := hb
  exact pe_meth0 he c hm F hr hb hd hx ht
theorem pe_callND (F : FnOk X.prog X.w X.K X.mg X.base CX k f fd ps sp) (hr : Room k X.A) (hg : Gl X x) (hm : X.mg x = some (.ref f)) (hk : PySem.W.keepIn X.K (.ref f) = true) (hb : KBnD X.K fd ps n ks gV) (hx : Passes CX X E)
    (ha : PA X (e :: es) t) (hkw : PK X kws tk) (hall : (backToKw pos (keywordEach kws X.env)).all (·.1.isSome) = true := by rfl) (hks : (backToKw pos (keywordEach kws X.env)).filterMap (·.1) = ks := by rfl)
    (hdb : (x == ("__debug__" : Str)) = false := by decide) (he : starEach (e :: es) X.env = (false, eval e X.env) :: starEach es X.env := by rfl)
    (hpl : ((backTo pos (starEach (e :: es) X.env)).any (·.1) || (backToKw pos (keywordEach kws X.env)).any (·.1.isNone)) = false := by rfl) :
    PE X (.Call (.Name x p) (e :: es) kws pos) (tCallN n ks.length sp gV E t tk) := by
  obtain ⟨g, hb⟩ := hb
  exact pe_callN F hr hg hm hk hb hx ha hkw hall hks hdb he hpl
theorem pe_makeND (M : Mk X.K C f) (F : FnOk X.prog X.w X.K X.mg X.base CX k f fd ps sp) (hr : Room (k + 1) X.A) (hg : Gl X x) (hm : X.mg x = some (.ref C)) (hb : KBnD X.K fd ps (n + 1) ks gV) (hx : Passes CX X E)
    (ha : PA X (e :: es) t) (hkw : PK X kws tk) (hall : (backToKw pos (keywordEach kws X.env)).all (·.1.isSome) = true := by rfl) (hks : (backToKw pos (keywordEach kws X.env)).filterMap (·.1) = ks := by rfl)
    (hdb : (x == ("__debug__" : Str)) = false := by decide) (he : starEach (e :: es) X.env = (false, eval e X.env) :: starEach es X.env := by rfl)
    (hpl : ((backTo pos (starEach (e :: es) X.env)).any (·.1) || (backToKw pos (keywordEach kws X.env)).any (·.1.isNone)) = false := by rfl) :
    PE X (.Call (.Name x p) (e :: es) kws pos) (tMakeN C n ks.length sp gV E t tk) := by
  obtain ⟨g, hb⟩ := hb
  exact pe_makeN M F hr hg hm hb hx ha hkw hall hks hdb he hpl
/-- o.m(e, .., k = v, ..) -/
def tMethN (C : Addr) (m : Str) (n j : Nat) (sp : Sp) (gV : List V → List V → List V) (E : XK) (ta : TE) (t tk : TA) : TE := fun σ H Q => ta σ H fun x H1 => ∃ a dx fs, x = .ref a ∧ H1 a = some (.ins C dx fs) ∧ fs.lookup m = none ∧
  t σ H1 fun vs H2 => tk σ H2 fun zs H3 => vs.length = n ∧ zs.length = j ∧ sp (gV (x :: vs) zs) H3 Q E
theorem pe_methND {pl : Sem Bool} (he : PE X o ta) (c : Cls X.K C) (hm : Meth X.K C m f) (F : FnOk X.prog X.w X.K X.mg X.base CX k f fd ps sp) (hr : Room k X.A) (hb : KBnD X.K fd ps (n + 1) ks gV) (hx : Passes CX X E)
    (ha : PA X (e :: es) t) (hkw : PK X kws tk) (hall : (backToKw pos (keywordEach kws X.env)).all (·.1.isSome) = true := by rfl) (hks : (backToKw pos (keywordEach kws X.env)).filterMap (·.1) = ks := by rfl)
    (hst : starEach (e :: es) X.env = (false, eval e X.env) :: starEach es X.env := by rfl)
    (hpl : ((backTo pos (starEach (e :: es) X.env)).any (·.1) || (backToKw pos (keywordEach kws X.env)).any (·.1.isNone)) = false := by rfl)
    (ht : eval (.Call (.Attribute o m apos) (e :: es) kws pos) X.env = (do
      let ov ← eval o X.env
      standAt apos.atName
      let (f, first) ← holding [ov] (getMethod ov m pl)
      callWith pos f first (backTo pos (starEach (e :: es) X.env)) (backToKw pos (keywordEach kws X.env))) := by rfl) :
    PE X (.Call (.Attribute o m apos) (e :: es) kws pos) (tMethN C m n ks.length sp gV E ta t tk) := by
  obtain ⟨g, hb⟩ := hb
  refine ⟨fun pins s σ H Q I h => ?_⟩
  refine PySem.W.methodCall_KW (pl := pl) (thn (he.run pins s σ H _ I h) fun u s1 ⟨x, H1, I1, rx, a, dx, fs, ex, ea, l, q⟩ => ?_) ht
  subst ex
  obtain rfl : u = Value.ref a := rx
  refine getmeth_ok I1 ea c hm l ?_
  refine PySem.W.callWith_KW (first := [.ref a]) (h₀ := X.base) I.ok.mod.kin hm.kp hall (thn (ha.run pos pins s1 σ H1 _ I1 q) fun us s2 ⟨vs, H2, I2, r, q2⟩ => ?_) hpl hst
  refine thn (hkw.run pos pins s2 σ H2 _ I2 q2) fun ws s3 ⟨zs, H3, I3, rz, l1, l2, q3⟩ => ⟨I3.kIn, ?_⟩
  rw [hks]
  exact run_fnN (us := .ref a :: us) (vs := .ref a :: vs) F hr hb hx I3 (.cons rfl r) rz (congrArg Nat.succ l1) l2 q3
end
/-! ### len, bool, repr of an instance with an own def for it -/
section
variable {X : Cx} {CX : CXT} {pins : List (Addr × Obj)} {σ : L2.St} {H : Hp} {s : Shared} {a C dx g : Addr} {fs : List (Str × V)} {k n : Nat} {fd : FuncData} {ps : List Str} {sp : Sp} {E : XK}
theorem ins_at (I : Inv X pins σ H s) (e : H a = some (.ins C dx fs)) : ∃ od, PySem.W.InstAt s.heap a (PySem.W.instObj C dx) C (some od) := by
  obtain ⟨mA, O, _⟩ := ins_get I.hok e
  obtain ⟨od, J, _⟩ := O.look
  exact ⟨od, J⟩
/-- a def called with one value, below -/
theorem run_in1 {A : Around} {Q : VK} {us : List Value} {vs : List V} (F : FnOk X.prog X.w X.K X.mg X.base CX k g fd ps sp) (hr : Room k A) (e0 : Env0 X.prog X.w X.K X.mg X.base A X.stack s H) (hb : BindsD X.K fd ps []) (hx : Passes CX X E)
    (I : Inv X pins σ H s) (r : Vals vs us) (h : sp vs H Q E) : wpAny (model X.prog X.w) A (call (.ref g) us) (EP X pins σ Q) X.xe s := by
  obtain ⟨ds, hd, hb⟩ := hb
  cases hd
  have hl : us.length = ps.length := by rw [← r.length]; exact F.len _ _ _ _ h
  have b := hb s us I.kIn (by rw [List.append_nil]; exact hl)
  rw [List.append_nil] at b
  refine wpAny_call (codeAny_mono (F.run A X.stack s H ⟨us, []⟩ us vs Q E hr e0 b r h) fun r s' hq => ?_)
  cases r with
  | error e => exact hx pins σ H s e s' I hq
  | ok fl =>
    cases fl with
    | ret u => exact I.after hq
    | next => exact False.elim hq
    | brk => exact False.elim hq
    | cont => exact False.elim hq
/-- len(x), x an instance of the class at C whose __len__ is the def at g -/
def rLenO (C : Addr) (sp : Sp) (E : XK) : List V → Hp → VK → Prop := fun xs H Q => ∃ a dx fs, xs = [.ref a] ∧ H a = some (.ins C dx fs) ∧ sp [.ref a] H (fun v H' => ∃ n : Int, v = .int n ∧ 0 ≤ n ∧ n < 2 ^ 63 ∧ Q (.int n) H') E
theorem call_lenO (hs : PySem.W.findIn X.K (.ref C) "__len__" = some (some (.ref g))) (hf : PySem.W.isFn X.K (.ref g) = true) (F : FnOk X.prog X.w X.K X.mg X.base CX k g fd ps sp) (hr : Room (k + 1) X.A) (hb : BindsD X.K fd ps []) (hx : Passes CX X E) :
    CallR X (.builtin "len") (rLenO C sp E) := by
  intro pins s σ H xs us Q I r h
  obtain ⟨a, dx, fs, rfl, ea, q⟩ := h
  obtain rfl := Vals.ref1 r
  obtain ⟨od, J⟩ := ins_at I ea
  obtain ⟨m, hF⟩ := I.fr
  refine PySem.W.len_K hF I.ok.mod.kin J hs hf (thn (run_in1 (vs := [.ref a]) F (Room.in1 hr) I.env0.in1 hb hx I (.cons rfl .nil) q) fun w s' z => ?_)
  obtain ⟨z', H', I', rz, i, ei, h0, h1, qz⟩ := z
  subst ei
  obtain ⟨t, rfl⟩ := (show ∃ t, w = Value.int i t from rz)
  exact ⟨⟨h0, h1⟩, ⟨.int i, H', I'.tok _, ⟨_, rfl⟩, qz⟩⟩
/-- repr(x), by the class's own def -/
def rReprO (C : Addr) (sp : Sp) (E : XK) : List V → Hp → VK → Prop := fun xs H Q => ∃ a dx fs, xs = [.ref a] ∧ H a = some (.ins C dx fs) ∧ sp [.ref a] H (fun v H' => ∃ z : Str, v = .str z ∧ Q (.str z) H') E
theorem call_reprO (hs : PySem.W.findIn X.K (.ref C) "__repr__" = some (some (.ref g))) (hf : PySem.W.isFn X.K (.ref g) = true) (F : FnOk X.prog X.w X.K X.mg X.base CX k g fd ps sp) (hr : Room (k + 1) X.A) (hb : BindsD X.K fd ps []) (hx : Passes CX X E) :
    CallR X (.builtin "repr") (rReprO C sp E) := by
  intro pins s σ H xs us Q I r h
  obtain ⟨a, dx, fs, rfl, ea, q⟩ := h
  obtain rfl := Vals.ref1 r
  obtain ⟨od, J⟩ := ins_at I ea
  obtain ⟨m, hF⟩ := I.fr
  refine PySem.W.repr_K (Room.in1 hr).units0 hF I.ok.mod.kin J hs hf (thn (run_in1 (vs := [.ref a]) F (Room.in1 hr) I.env0.in1 hb hx I (.cons rfl .nil) q) fun w s' z => ?_)
  obtain ⟨z', H', I', rz, i, ei, qz⟩ := z
  subst ei
  obtain ⟨t, rfl⟩ := (show ∃ t, w = Value.str i t from rz)
  exact ⟨.str i, H', I', ⟨_, rfl⟩, qz⟩
end
end LM

namespace LM
open PySem PySem.Spec PyProof.Rows L2
/-! ### truth by an own __len__ -/
section
variable {prog : Program} {w : World} {A : Around} {E : Value → Shared → Prop} {s : Shared} {K : PySem.W.Frag} {x C f : Addr} {ox : Obj} {od : Option Obj}
theorem len_code {Q : Value → Shared → Prop} (X : K.In s.heap) (I : PySem.W.InstAt s.heap x ox C od) (hs : PySem.W.findIn K (.ref C) "__len__" = some (some (.ref f))) (hf : PySem.W.isFn K (.ref f) = true)
    (h : wpAny (model prog w) A (call (.ref f) [.ref x]) (PySem.W.LenBack Q) E s) : wpAny (model prog w) A (Builtin.«len» ⟨[.ref x], []⟩) (fun fin s' => ∃ r, fin = .done (.ret r) ∧ Q r s') E s := by
  unfold Builtin.«len»
  refine wpAny_bind (m := oneArg "len" _) (wpAny_pure ?_)
  refine wpAny_bind (m := callSpecial? (.ref x) (Str.ofString "__len__")) (PySem.W.special_fn X I hs (beq_iff_eq.mp hf) (wpAny_mono h (fun r s' hr => ?_) fun _ _ y => y))
  cases r <;> first | exact hr.elim | skip
  rename_i n u
  obtain ⟨⟨h0, h1⟩, hq⟩ := hr
  refine wpAny_bind (wpAny_holding (wpAny_pure ?_))
  refine wpAny_bind (wpAny_letGo ?_)
  show wpAny _ _ (if n < 0 then _ else _) _ _ _
  rw [if_neg (by omega)]
  show wpAny _ _ (if n ≥ 2 ^ 63 then _ else _) _ _ _
  rw [if_neg (by omega)]
  exact wpAny_bind (wpAny_mkInt (wpAny_pure ⟨_, rfl, hq⟩))
theorem truthy_len {Q : Bool → Shared → Prop} (X : K.In s.heap) (I : PySem.W.InstAt s.heap x ox C od) (hb : PySem.W.findIn K (.ref C) "__bool__" = some none) (hs : PySem.W.findIn K (.ref C) "__len__" = some (some (.ref f))) (hf : PySem.W.isFn K (.ref f) = true)
    (h : wpAny (model prog w) A.in1 (call (.ref f) [.ref x]) (PySem.W.LenBack fun v s' => match v with | .int n _ => Q (n != 0) s' | _ => False) E s) : wpAny (model prog w) A (truthy (.ref x)) Q E s := by
  have key : wpAny (model prog w) A (runValue (.builtin "len" ⟨[.ref x], []⟩)) (fun v s' => match v with | .int n _ => Q (n != 0) s' | _ => False) E s := by
    refine wpAny_runValue (codeAny_builtin entry_len ?_)
    rw [Around.under_plainId plain_len _]
    exact wpAny_mono (len_code X I hs hf h) (fun fin s' h' => by obtain ⟨r, rfl, hq⟩ := h'; exact hq) fun _ _ e => e
  unfold truthy
  refine wpAny_bind (m := callSpecial? (.ref x) (Str.ofString "__bool__")) (wpAny_bind (wpAny_bind (I.type.here ((PySem.W.looks_findIn X hb).here (wpAny_pure ?_)))))
  refine wpAny_bind (wpAny_bind (I.type.here ((PySem.W.looks_findIn X hs).here ?_)))
  refine wpAny_bind (wpAny_mono key (fun r s' h' => ?_) fun _ _ e => e)
  cases r <;> first | exact h'.elim | skip
  exact wpAny_pure h'
theorem type_bool : isType (.type "bool") = pure true := by first | rfl | kernel_rfl | (unfold isType; rw [isSubtype_type]; kernel_rfl)
/-- bool(x), by truthy -/
theorem bool_by {v : Value} {Q : Value → Shared → Prop} (h : wpAny (model prog w) A.in1.in1 (truthy v) (fun b s' => Q (.bool b) s') E s) : wpAny (model prog w) A (call (.type "bool") [v]) Q E s := by
  refine callType_codes (T := "bool") (Bi := Builtin.«object.__init__») (Q₁ := fun r s₁ => ∃ b, r = Value.bool b ∧ Q r s₁) PySem.F.called_bool (PySem.F.typeCall_bool_1 _) PySem.F.entry_object_init ?_ ?_
  · refine codeAny_of_tree ?_
    show wpAny _ A.in1.in1 (do checkBuiltinCall "bool.__new__" ⟨[.type "bool", v], []⟩; again (.builtin "bool.__new__" ⟨[.type "bool", v], []⟩)) _ _ s
    refine wpAny_bind (wpAny_of_eq (PySem.F.newCall_bool_1 _) (wpAny_pure ⟨plainId_quiet (by decide +kernel) _, codeAny_builtin PySem.F.entry_bool_new ?_⟩))
    rw [Around.under_plainId (by decide +kernel) _]
    unfold Builtin.«bool.__new__»
    refine wpAny_bind (wpAny_of_eq (a := true) type_bool ?_)
    refine PySem.W.KFB.if_not rfl ?_
    refine wpAny_bind (wpAny_of_eq (a := true) PySem.F.conv_sub_bool ?_)
    refine PySem.W.KFB.if_not rfl ?_
    refine wpAny_bind (wpAny_of_eq (a := [v]) rfl ?_)
    refine wpAny_bind (wpAny_mono h (fun b s₁ hq => ?_) fun _ _ y => y)
    exact wpAny_pure ⟨b, rfl, hq⟩
  · rintro obj s₁ ⟨b, rfl, hq⟩
    exact ⟨PySem.typeIs_bool _ _, PySem.F.args_object_init_2 _ _, object_init_meets PySem.F.called_bool.init.lookup PySem.F.called_bool.made (by decide) prog w A.in1 _ s₁ ⟨PySem.typeIs_bool _ _, rfl, hq⟩⟩
end
section
variable {X : Cx} {CX : CXT} {pins : List (Addr × Obj)} {σ : L2.St} {H : Hp} {s : Shared} {a C dx g : Addr} {fs : List (Str × V)} {k n : Nat} {fd : FuncData} {ps : List Str} {sp : Sp} {E : XK}
/-- the truth of an instance with __len__ alone -/
def rTruO (C : Addr) (sp : Sp) (E : XK) : V → Hp → (Bool → Hp → Prop) → Prop := fun x H Q => ∃ a dx fs, x = .ref a ∧ H a = some (.ins C dx fs) ∧ sp [.ref a] H (fun v H' => ∃ n : Int, v = .int n ∧ 0 ≤ n ∧ n < 2 ^ 63 ∧ Q (n != 0) H') E
theorem tru_O (hb0 : PySem.W.findIn X.K (.ref C) "__bool__" = some none) (hs : PySem.W.findIn X.K (.ref C) "__len__" = some (some (.ref g))) (hf : PySem.W.isFn X.K (.ref g) = true) (F : FnOk X.prog X.w X.K X.mg X.base CX k g fd ps sp) (hr : Room (k + 1) X.A)
    (hb : BindsD X.K fd ps []) (hx : Passes CX X E) : TruR X (rTruO C sp E) := by
  intro pins s σ H x v Q I rx h
  obtain ⟨a, dx, fs, rfl, ea, q⟩ := h
  cases (show v = Value.ref a from rx)
  obtain ⟨od, J⟩ := ins_at I ea
  refine truthy_len I.kIn J hb0 hs hf (thn (run_in1 (vs := [.ref a]) F (Room.in1 hr) I.env0.in1 hb hx I (.cons rfl .nil) q) fun w s' z => ?_)
  obtain ⟨z', H', I', rz, i, ei, h0, h1, qz⟩ := z
  subst ei
  obtain ⟨t, rfl⟩ := (show ∃ t, w = Value.int i t from rz)
  exact ⟨⟨h0, h1⟩, H', I'.tok _, qz⟩
def rBoolO (C : Addr) (sp : Sp) (E : XK) : List V → Hp → VK → Prop := fun xs H Q => ∃ a dx fs, xs = [.ref a] ∧ H a = some (.ins C dx fs) ∧ sp [.ref a] H (fun v H' => ∃ n : Int, v = .int n ∧ 0 ≤ n ∧ n < 2 ^ 63 ∧ Q (.bl (n != 0)) H') E
theorem call_boolO (hb0 : PySem.W.findIn X.K (.ref C) "__bool__" = some none) (hs : PySem.W.findIn X.K (.ref C) "__len__" = some (some (.ref g))) (hf : PySem.W.isFn X.K (.ref g) = true) (F : FnOk X.prog X.w X.K X.mg X.base CX k g fd ps sp) (hr : Room (k + 3) X.A)
    (hb : BindsD X.K fd ps []) (hx : Passes CX X E) : CallR X (.type "bool") (rBoolO C sp E) := by
  intro pins s σ H xs us Q I r h
  obtain ⟨a, dx, fs, rfl, ea, q⟩ := h
  obtain rfl := Vals.ref1 r
  obtain ⟨od, J⟩ := ins_at I ea
  have hr2 : Room (k + 1) X.A.in1.in1 := Room.in1 (Room.in1 hr)
  refine bool_by (truthy_len I.kIn J hb0 hs hf (thn (run_in1 (vs := [.ref a]) F (Room.in1 hr2) I.env0.in1.in1.in1 hb hx I (.cons rfl .nil) q) fun w s' z => ?_))
  obtain ⟨z', H', I', rz, i, ei, h0, h1, qz⟩ := z
  subst ei
  obtain ⟨t, rfl⟩ := (show ∃ t, w = Value.int i t from rz)
  exact ⟨⟨h0, h1⟩, .bl (i != 0), H', I'.tok _, rfl, qz⟩
end
end LM

namespace LM
open PySem PySem.Spec PyProof.Rows L2
/-! ### zip over lists and tuples (true: a tuple), two and three -/
def SqK (K : PySem.W.Frag) (tup : Bool) (H : Hp) (a : Addr) (xs : List V) : Prop := match tup with
  | true => SqT K H a xs
  | false => SqL K H a xs
def ItS (tup : Bool) (h : Heap) (it a : Addr) (i : Nat) : Prop := match tup with
  | true => h.IsTupleIter it a i
  | false => h.IsListIter it a i
def IsS (tup : Bool) (h : Heap) (a : Addr) (items : Array Value) : Prop := match tup with
  | true => h.IsTuple a items
  | false => h.IsList a items
theorem ItS.at_ {tup : Bool} {h h' : Heap} {it a : Addr} {i : Nat} (x : ItS tup h it a i) (k : ∀ o, h.get? it = some o → h'.get? it = some o) : ItS tup h' it a i := by
  cases tup with
  | true => exact Heap.IsTupleIter.at x k
  | false => exact Heap.IsListIter.at x k
theorem ItS.obj {tup : Bool} {h : Heap} {it a : Addr} {i : Nat} (x : ItS tup h it a i) : ∃ o, h.get? it = some o ∧ ∀ v, o.data ≠ .cell v := by
  cases tup with
  | true =>
    obtain ⟨o, e, _, d⟩ := x
    exact ⟨o, e, fun v q => by rw [d] at q; cases q⟩
  | false =>
    obtain ⟨o, e, _, d⟩ := x
    exact ⟨o, e, fun v q => by rw [d] at q; cases q⟩
theorem draws_S {prog : Program} {w : World} {A : Around} (hh : A.handled = none) (tup : Bool) (it l : Addr) (hne : l ≠ it) (items : Array Value) :
    Draws prog w A it [it, l] items.size (fun i v => items[i]? = some v) (fun i h => ItS tup h it l i ∧ IsS tup h l items) := by
  cases tup with
  | true => exact Draws.tuple hh it l hne items
  | false => exact Draws.list hh it l hne items
theorem sqk_at {X : Cx} {pins : List (Addr × Obj)} {σ : L2.St} {H : Hp} {s : Shared} {tup : Bool} {a : Addr} {xs : List V} (I : Inv X pins σ H s) (h : SqK X.K tup H a xs) : ∃ its : List Value, Vals xs its ∧ IsS tup s.heap a its.toArray ∧ a < s.heap.objs.size ∧ xs.length ≤ sizeLine := by
  cases tup with
  | true =>
    obtain ⟨its, rv, p, z⟩ := I.tuple h
    exact ⟨its, rv, p, p.lt, z⟩
  | false =>
    obtain ⟨its, rv, p, z⟩ := I.list h
    exact ⟨its, rv, p.isList, p.lt, z⟩
theorem sqk_inj {X : Cx} {pins : List (Addr × Obj)} {σ : L2.St} {H : Hp} {s : Shared} {tup : Bool} {a : Addr} {xs ys : List V} (I : Inv X pins σ H s) (h : SqK X.K tup H a xs) (h' : SqK X.K tup H a ys) : xs = ys := by
  cases tup with
  | true => exact I.tuple_inj h h'
  | false => exact I.list_inj h h'
/-- iter(..) of it: a new object -/
def itO (tup : Bool) (a : Addr) : Obj := match tup with
  | true => { cls := .type "tuple_iterator", data := .fields #[.ref a, .int 0 0] }
  | false => { cls := .type "list_iterator", data := .fields #[.ref a, .int 0 0] }
theorem begins_S (tup : Bool) (a : Addr) (items : Array Value) : Begins (.ref a) (itO tup a) fun h => IsS tup h a items := by
  cases tup with
  | true => exact begins_tuple a items
  | false => exact begins_list a items
theorem its_S {tup : Bool} {h : Heap} {it a : Addr} (e : h.get? it = some (itO tup a)) : ItS tup h it a 0 := by
  cases tup with
  | true => exact ⟨_, e, rfl, rfl⟩
  | false => exact ⟨_, e, rfl, rfl⟩
/-! #### three -/
def Itz3 (K : PySem.W.Frag) (ta tb tc : Bool) (a b c : Addr) : It :=
  ⟨fun i H => ∃ (xs ys zs : List V) (x y z : V), SqK K ta H a xs ∧ SqK K tb H b ys ∧ SqK K tc H c zs ∧ xs[i]? = some x ∧ ys[i]? = some y ∧ zs[i]? = some z,
    fun i H v H' => ∃ T x y z, v = .ref T ∧ H T = none ∧ H' = upd H T (.tup [x, y, z]) ∧ (∀ xs, SqK K ta H a xs → xs[i]? = some x) ∧ (∀ ys, SqK K tb H b ys → ys[i]? = some y) ∧ ∀ zs, SqK K tc H c zs → zs[i]? = some z,
    fun i H => ∃ xs ys zs : List V, SqK K ta H a xs ∧ SqK K tb H b ys ∧ SqK K tc H c zs ∧ i = xs.length ∧ i = ys.length ∧ i = zs.length⟩
theorem turn_zip3 {P : Program} {w : World} {K : PySem.W.Frag} {elts : List Expr} {kk : Nat} {tpos : Pos} {ta tb tc : Bool} {a b c z TI TO i1 i2 i3 : Addr} (S : ZipSep3 z TI TO i1 i2 i3 [i1, a] [i2, b] [i3, c]) (na : a ≠ i1) (nb : b ≠ i2) (nc : c ≠ i3) :
    Turn P w K (.Tuple elts kk tpos) (Itz3 K ta tb tc a b c) [z, TI, TO, i1, i2, i3] z
      (fun i h => IsZip h z TI TO .none ∧ IsTupOf3 h TI (.ref i1) (.ref i2) (.ref i3) ∧ (∃ x y u, IsTupOf3 h TO x y u) ∧ ItS ta h i1 a i ∧ ItS tb h i2 b i ∧ ItS tc h i3 c i) where
  mem := by simp
  obj := fun i h st d hd => by
    obtain ⟨hz, hTI, ⟨x, y, u, hTO⟩, h1, h2, h3⟩ := st
    have e' : d = z ∨ d = TI ∨ d = TO ∨ d = i1 ∨ d = i2 ∨ d = i3 := by simpa using hd
    rcases e' with q | q | q | q | q | q
    · rw [q]; exact ⟨_, hz, fun v q => nomatch q⟩
    · rw [q]; exact ⟨_, hTI, fun v q => nomatch q⟩
    · rw [q]; exact ⟨_, hTO, fun v q => nomatch q⟩
    · rw [q]; exact h1.obj
    · rw [q]; exact h2.obj
    · rw [q]; exact h3.obj
  keep := fun i h h' st k => by
    obtain ⟨hz, hTI, ⟨x, y, u, hTO⟩, h1, h2, h3⟩ := st
    exact ⟨k z (by simp) _ hz, k TI (by simp) _ hTI, ⟨x, y, u, k TO (by simp) _ hTO⟩, h1.at_ fun o q => k i1 (by simp) o q, h2.at_ fun o q => k i2 (by simp) o q, h3.at_ fun o q => k i3 (by simp) o q⟩
  item := by
    intro X hP hw hK hc i pins s σ H E I hf st hg
    subst hP hw hK
    obtain ⟨hz, hTI, hTO, h1, h2, h3⟩ := st
    obtain ⟨xs, ys, zs, x, y, u, hqx, hqy, hqz, hx, hy, hu⟩ := hg
    obtain ⟨its, rv, p, _⟩ := sqk_at I hqx
    obtain ⟨its2, rv2, p2, _⟩ := sqk_at I hqy
    obtain ⟨its3, rv3, p3, _⟩ := sqk_at I hqz
    obtain ⟨v1, hv1, r1⟩ := rv.get hx
    obtain ⟨v2, hv2, r2⟩ := rv2.get hy
    obtain ⟨v3, hv3, r3⟩ := rv3.get hu
    have hh : X.A.in1.handled = none := I.ok.hd hc
    have W := WalksT.zipD3 (prog := X.prog) (w := X.w) (A := X.A) S (draws_S hh ta i1 a na its.toArray) (draws_S hh tb i2 b nb its2.toArray) (draws_S hh tc i3 c nc its3.toArray)
    have l1 : i < its.length := (List.getElem?_eq_some_iff.mp hv1).1
    have l2 : i < its2.length := (List.getElem?_eq_some_iff.mp hv2).1
    have l3 : i < its3.length := (List.getElem?_eq_some_iff.mp hv3).1
    refine W.item i s _ _ (by simp only [List.size_toArray]; omega) ⟨hz, hTI, hTO, ⟨h1, p⟩, ⟨h2, p2⟩, ⟨h3, p3⟩⟩ fun T vals h' tk hP hT hTup hm hk => ?_
    obtain ⟨y1, y2, y3, q1, q2, q3, rfl⟩ := hP
    refine ⟨_, rfl, W.go elts kk tpos i T { s with heap := h', toks := tk } _ _ hm fun h'' st'' hk' => ?_⟩
    have hm' := hm
    obtain ⟨_, _, _, _, _, _, tz, tT, t1, t2, t3⟩ := hm'
    have hwr : T ∉ [z, TO, i1, i2, i3] := by simp [tz, tT, t1, t2, t3]
    have e1 : y1 = v1 := by
      have : its.toArray[i]? = some y1 := q1
      rw [List.getElem?_toArray, hv1] at this
      exact (Option.some.inj this).symm
    have e2 : y2 = v2 := by
      have : its2.toArray[i]? = some y2 := q2
      rw [List.getElem?_toArray, hv2] at this
      exact (Option.some.inj this).symm
    have e3 : y3 = v3 := by
      have : its3.toArray[i]? = some y3 := q3
      rw [List.getElem?_toArray, hv3] at this
      exact (Option.some.inj this).symm
    subst e1 e2 e3
    have hT2 : IsTup h'' T #[y1, y2, y3] := by
      obtain ⟨o, ho, hc1, n, hd⟩ := hTup
      exact ⟨o, hk' T o hwr ho, hc1, n, hd⟩
    have new : ObjOk X.prog X.w (upd H T (.tup [x, y, u])) h'' T (.tup [x, y, u]) := ⟨by show 3 ≤ sizeLine; decide, [y1, y2, y3], .cons r1 (.cons r2 (.cons r3 .nil)), hT2⟩
    have sub : ∀ d, d ∈ [z, TO, i1, i2, i3] → d ∈ [z, TI, TO, i1, i2, i3] := by
      intro d hd
      simp at hd ⊢
      rcases hd with q | q | q | q | q <;> simp [q]
    have I1 : Inv X pins σ (upd H T (.tup [x, y, u])) { s with heap := h'', toks := tk } :=
      I.turnedNew (t' := tk) (ch := [z, TI, TO, i1, i2, i3]) (fun d o hb q => hk' d o (fun z => hb (sub d z)) (hk d o (fun z => hb (sub d z)) q)) hf hT new
    obtain ⟨s1, s2, s3, ⟨s4, _⟩, ⟨s5, _⟩, ⟨s6, _⟩⟩ := st''
    refine ⟨.ref T, _, I1, rfl, ⟨T, x, y, u, rfl, I.hok.fresh hT, rfl, fun l hl => by rw [sqk_inj I hl hqx]; exact hx, fun l hl => by rw [sqk_inj I hl hqy]; exact hy, fun l hl => by rw [sqk_inj I hl hqz]; exact hu⟩, ⟨s1, s2, s3, s4, s5, s6⟩, fun d hd => ?_⟩
    have hlt : d < s.heap.objs.size := by
      have e' : d = z ∨ d = TI ∨ d = TO ∨ d = i1 ∨ d = i2 ∨ d = i3 := by simpa using hd
      obtain ⟨_, _, _, hTO'⟩ := hTO
      rcases e' with q | q | q | q | q | q
      · rw [q]; exact Heap.lt_size hz
      · rw [q]; exact Heap.lt_size hTI
      · rw [q]; exact Heap.lt_size hTO'
      · rw [q]; obtain ⟨_, e1, _⟩ := h1.obj; exact Heap.lt_size e1
      · rw [q]; obtain ⟨_, e1, _⟩ := h2.obj; exact Heap.lt_size e1
      · rw [q]; obtain ⟨_, e1, _⟩ := h3.obj; exact Heap.lt_size e1
    rw [upd_ne (Nat.ne_of_lt (Nat.lt_of_lt_of_le hlt hT))]
    exact (hf d hd).1
  done := by
    intro X hP hw hK hc i pins s σ H E I hf st hg
    subst hP hw hK
    obtain ⟨hz, hTI, hTO, h1, h2, h3⟩ := st
    obtain ⟨xs, ys, zs, hqx, hqy, hqz, e1, e2, e3⟩ := hg
    obtain ⟨its, rv, p, _⟩ := sqk_at I hqx
    obtain ⟨its2, rv2, p2, _⟩ := sqk_at I hqy
    obtain ⟨its3, rv3, p3, _⟩ := sqk_at I hqz
    have l1 := rv.length
    have l2 := rv2.length
    have l3 := rv3.length
    have hh : X.A.in1.handled = none := I.ok.hd hc
    have W := WalksT.zipD3 (prog := X.prog) (w := X.w) (A := X.A) S (draws_S hh ta i1 a na its.toArray) (draws_S hh tb i2 b nb its2.toArray) (draws_S hh tc i3 c nc its3.toArray)
    have ei : min (min its.toArray.size its2.toArray.size) its3.toArray.size = i := by simp only [List.size_toArray]; omega
    refine W.done s _ _ (by rw [ei]; exact ⟨hz, hTI, hTO, ⟨h1, p⟩, ⟨h2, p2⟩, ⟨h3, p3⟩⟩) fun h' tk hk => ⟨rfl, I.turnedL (t' := tk) (ch := [z, TI, TO, i1, i2, i3]) (fun d o hb q => hk d o (fun z => hb ?_) q) hf⟩
    simp at z ⊢
    rcases z with q | q | q | q | q <;> simp [q]
  self := fun A i s Q E st h => wpAny_pyIter_zip st.1 h
def iZip3 (K : PySem.W.Frag) (ta tb tc : Bool) (tA : TA) : TI := fun σ H R => tA σ H fun vs H1 => ∃ a b c xs ys zs, vs = [.ref a, .ref b, .ref c] ∧ SqK K ta H1 a xs ∧ SqK K tb H1 b ys ∧ SqK K tc H1 c zs ∧ R (Itz3 K ta tb tc a b c) H1
theorem pi_zip3 (ta tb tc : Bool) {X : Cx} {e e2 e3 : Expr} {tA : TA} {p pos tpos : Pos} {elts : List Expr} {kk : Nat} (hg : Gl X "zip") (hm : X.mg "zip" = none) (ha : PA X [e, e2, e3] tA)
    (hs : starEach [e, e2, e3] X.env = (false, eval e X.env) :: starEach [e2, e3] X.env := by rfl) (hpl : (backTo pos (starEach [e2, e3] X.env)).any (·.1) = false := by rfl) :
    PI X (.Tuple elts kk tpos) (.Call (.Name "zip" p) [e, e2, e3] [] pos) (iZip3 X.K ta tb tc tA) := by
  refine ⟨fun pins s σ H R I h => ?_⟩
  refine Call_ (ld_blt I hg hm PyProof.Rows.boot_zip (PyProof.Rows.callWith_type1 (thn (ha.run pos pins s σ H _ I h) fun us s1 ⟨vs, H1, I1, r1, q1⟩ => ?_) hs hpl))
  obtain ⟨a, b, c, xs, ys, zs, ex, hqx, hqy, hqz, q⟩ := q1
  subst ex
  cases r1 with
  | cons r rr =>
    cases rr with
    | cons r' rr =>
      cases rr with
      | cons r'' rr =>
        cases rr
        cases r
        cases r'
        cases r''
        obtain ⟨its, rv, p1, la, _⟩ := sqk_at I1 hqx
        obtain ⟨its2, rv2, p2, lb, _⟩ := sqk_at I1 hqy
        obtain ⟨its3, rv3, p3, lc, _⟩ := sqk_at I1 hqz
        refine zip_begins3 (begins_S ta a _) (begins_S tb b _) (begins_S tc c _) p1 p2 p3 fun h' hz hTI hTO h1 h2 h3 hsz hk => wpAny_pyIter_zip hz ?_
        have I2 : Inv X pins σ H1 { s1 with heap := h' } := I1.kept (t' := s1.toks) hk
        have S : ZipSep3 (s1.heap.objs.size + 5) (s1.heap.objs.size + 3) (s1.heap.objs.size + 4) s1.heap.objs.size (s1.heap.objs.size + 1) (s1.heap.objs.size + 2) [s1.heap.objs.size, a] [s1.heap.objs.size + 1, b] [s1.heap.objs.size + 2, c] :=
          zip_sep3 (by simp; exact la) (by simp; exact lb) (by simp; exact lc)
        refine ⟨s1.heap.objs.size + 5, [s1.heap.objs.size + 5, s1.heap.objs.size + 3, s1.heap.objs.size + 4, s1.heap.objs.size, s1.heap.objs.size + 1, s1.heap.objs.size + 2], _, _, H1, rfl, I2,
          turn_zip3 S (Nat.ne_of_lt la) (Nat.ne_of_lt (Nat.lt_succ_of_lt lb)) (Nat.ne_of_lt (Nat.lt_succ_of_lt (Nat.lt_succ_of_lt lc))), ⟨hz, hTI, ⟨_, _, _, hTO⟩, its_S h1, its_S h2, its_S h3⟩, fun d hd => ?_, q⟩
        have hle : s1.heap.objs.size ≤ d := by
          have e' : d = s1.heap.objs.size + 5 ∨ d = s1.heap.objs.size + 3 ∨ d = s1.heap.objs.size + 4 ∨ d = s1.heap.objs.size ∨ d = s1.heap.objs.size + 1 ∨ d = s1.heap.objs.size + 2 := by simpa using hd
          rcases e' with z | z | z | z | z | z
          · rw [z]; exact Nat.le_add_right _ _
          · rw [z]; exact Nat.le_add_right _ _
          · rw [z]; exact Nat.le_add_right _ _
          · rw [z]; exact Nat.le_refl _
          · rw [z]; exact Nat.le_add_right _ _
          · rw [z]; exact Nat.le_add_right _ _
        exact I1.fpOk hle (I1.hok.fresh hle)
/-- for x, y, z in zip(..), three of one length -/
theorem for_zip3 {K : PySem.W.Frag} {ta tb tc : Bool} {a b c : Addr} {xs ys zs : List V} {g : TG} {tbo : TS} {D : Ends} {σ : L2.St} {H : Hp} (hl : xs.length = ys.length) (hl2 : xs.length = zs.length) (Pv : Nat → L2.St → Hp → Prop) (h0 : Pv 0 σ H)
    (hq : ∀ i σ H, i ≤ xs.length → Pv i σ H → SqK K ta H a xs ∧ SqK K tb H b ys ∧ SqK K tc H c zs)
    (hs : ∀ i x y z T σ H, xs[i]? = some x → ys[i]? = some y → zs[i]? = some z → Pv i σ H → H T = none → g (.ref T) σ (upd H T (.tup [x, y, z])) fun σ2 H2 => tbo { D with nx := Pv (i + 1), ct := Pv (i + 1), bk := D.nx } σ2 H2) (hd : ∀ σ H, Pv xs.length σ H → D.nx σ H) :
    ∃ W : Nat → Nat → L2.St → Hp → Prop, (∃ m, W 0 m σ H) ∧ ∀ i m σ H, W i m σ H →
      ((Itz3 K ta tb tc a b c).stop i H ∧ D.nx σ H) ∨ ((Itz3 K ta tb tc a b c).go i H ∧ ∃ N : L2.St → Hp → Prop, (∀ σ' H', N σ' H' → ∃ m', m' < m ∧ W (i + 1) m' σ' H') ∧ ∀ x H', (Itz3 K ta tb tc a b c).yld i H x H' → g x σ H' fun σ2 H2 => tbo { D with nx := N, ct := N, bk := D.nx } σ2 H2) := by
  refine ⟨fun i m σ H => m = xs.length - i ∧ i ≤ xs.length ∧ Pv i σ H, ⟨xs.length, by simp, Nat.zero_le _, h0⟩, ?_⟩
  rintro i m σ H ⟨rfl, hi, p⟩
  obtain ⟨q1, q2, q3⟩ := hq i σ H hi p
  by_cases hlt : i < xs.length
  · refine .inr ⟨⟨xs, ys, zs, xs[i], ys[i], zs[i], q1, q2, q3, by simp [hlt], by simp, by simp⟩, Pv (i + 1), fun σ' H' p' => ⟨xs.length - (i + 1), by omega, rfl, hlt, p'⟩, fun v H' hy => ?_⟩
    obtain ⟨T, x, y, z, rfl, hT, rfl, e1, e2, e3⟩ := hy
    exact hs i x y z T σ H (e1 xs q1) (e2 ys q2) (e3 zs q3) p hT
  · have e : i = xs.length := by omega
    subst e
    exact .inl ⟨⟨xs, ys, zs, q1, q2, q3, rfl, hl, hl2⟩, hd σ H p⟩
end LM

namespace LM
open PySem PySem.Spec PyProof.Rows L2
/-! ### range objects -/
theorem q_len_rng (r : Addr) (a b : Int) (t u v : Tok) (hfit : ¬ Builtin.Range.rangeSize a b 1 ≥ 2 ^ 63) :
    Meets (Builtin.«range.__len__» ⟨[.ref r], []⟩) (fun _ R s => s.heap.get? r = some { cls := .type "range", dict := none, data := .fields #[.int a t, .int b u, .int 1 v], slots := #[] } ∧ R (.ok (.ret (.int (Builtin.Range.rangeSize a b 1) s.toks))) { s with toks := s.toks + 1 }) :=
  .of_wp fun prog w A R s h => by obtain ⟨hp, g, d, tk, os⟩ := s; obtain ⟨hl, h⟩ := h; wp_walk; simp only [if_neg hfit]; wp_walk; exact ⟨_, rfl, h⟩
section
variable {X : Cx}
theorem call_len_rng : CallR X (.builtin "len") (fun xs H Q => ∃ p lo hi, xs = [.ref p] ∧ H p = some (.rng lo hi) ∧ hi - lo < 2 ^ 63 ∧ Q (.int (if lo < hi then hi - lo else 0)) H) := by
  intro pins s σ H xs us Q I r h
  obtain ⟨p, lo, hi, rfl, hp, hz, q⟩ := h
  obtain rfl := Vals.ref1 r
  obtain ⟨t1, t2, t3, ho⟩ := I.hok p _ hp
  have e : Builtin.Range.rangeSize lo hi 1 = if lo < hi then hi - lo else 0 := rangeSize_one ..
  refine call_len_slot (n := if lo < hi then hi - lo else 0) (T := "range") ⟨_, ho, rfl⟩ F.slot_range_len (fun Q' hq => ?_) (by split <;> omega) (by split <;> omega) ⟨.int (if lo < hi then hi - lo else 0), H, I.tok _, ⟨_, rfl⟩, q⟩
  refine call_meets F.slot_range_len ⟨_, ho, rfl⟩ F.entry_range_len (F.args_range_len_1 _) (q_len_rng p lo hi t1 t2 t3 (by rw [e]; split <;> omega)) ⟨ho, ?_⟩
  rw [e]
  exact hq
theorem cr_range1 : CallR X (.type "range") (fun vs H Q => ∃ j, vs = [V.int j] ∧ ∀ p, H p = none → Q (.ref p) (upd H p (.rng 0 j))) := by
  intro pins s σ H vs us Q I r h
  obtain ⟨j, rfl, q⟩ := h
  obtain ⟨u1, rfl, rj⟩ := vals1 r
  obtain ⟨u, rfl⟩ := rj
  refine call_range_1 ⟨.ref s.heap.objs.size, upd H s.heap.objs.size (.rng 0 j), I.laid (t' := s.toks + 2) (fun b o e => Heap.get?_push_of_some _ e) (Nat.le_refl _) ?_, rfl, q _ (I.hok.fresh (Nat.le_refl _))⟩
  exact ⟨_, _, _, Heap.get?_push_size _ rfl⟩
end
end LM

namespace LM
open PySem PySem.Spec PyProof.Rows L2
/-! ### readings, one step each -/
section
variable {K : PySem.W.Frag} {σ : L2.St} {H : Hp} {Q : VK} {D : Ends} {ta tb tc te to td ty tv : TE} {tt tu : TT} {ts us : TS} {as_ : TA} {g : TG} {v x y z : V} {i j : Int} {n : Nat}
theorem n_seq (h : ts { D with nx := us D } σ H) : tSeq ts us D σ H := h
theorem n_asg (h : te σ H fun x H1 => g x σ H1 D.nx) : tAsg te g D σ H := h
theorem n_name {k : Nat} {R : L2.St → Hp → Prop} (h : R (σ.set k (some v)) H) : gName k v σ H R := h
theorem n_var {k : Nat} (h : σ[k]? = some (some v)) (q : Q v H) : tVar k σ H Q := ⟨v, h, q⟩
theorem n_c (q : Q v H) : tC v σ H Q := q
theorem n_op {r : R2} (h : ta σ H fun x H1 => tb σ H1 fun y H2 => r x y H2 Q) : tOp r ta tb σ H Q := h
theorem n_un {r : V → Hp → VK → Prop} (h : ta σ H fun x H1 => r x H1 Q) : tUn r ta σ H Q := h
theorem n_I0 {f : Int → Int → V} (q : Q (f i j) H) : rI0 f (.int i) (.int j) H Q := ⟨i, j, rfl, rfl, q⟩
theorem n_mul {f : Int → Int → V} (c : CMulW i j) (q : Q (f i j) H) : rI CMulW f (.int i) (.int j) H Q := ⟨i, j, rfl, rfl, c, q⟩
theorem n_div {f : Int → Int → V} (c : CDivW i j) (q : Q (f i j) H) : rI CDivW f (.int i) (.int j) H Q := ⟨i, j, rfl, rfl, c, q⟩
theorem n_pow {f : Int → Int → V} (c : CPow i j) (q : Q (f i j) H) : rI CPow f (.int i) (.int j) H Q := ⟨i, j, rfl, rfl, c, q⟩
theorem n_mod {f : Int → Int → V} (c : 0 < j) (q : Q (f i j) H) : rI (fun _ j => 0 < j) f (.int i) (.int j) H Q := ⟨i, j, rfl, rfl, c, q⟩
theorem n_U {f : Int → V} (q : Q (f i) H) : rU f (.int i) H Q := ⟨i, rfl, q⟩
theorem n_eq (hs : scal x y = true) (q : Q (.bl (decide (x = y))) H) : rEq x y H Q := ⟨hs, q⟩
theorem n_ne (hs : scal x y = true) (q : Q (.bl (!decide (x = y))) H) : rNe x y H Q := ⟨hs, q⟩
def blK (x : V) (H : Hp) (R : Bool → Hp → Prop) : Prop := ∃ k, x = .bl k ∧ R k H
theorem n_blK {b : Bool} {R : Bool → Hp → Prop} (q : R b H) : blK (.bl b) H R := ⟨b, rfl, q⟩
theorem n_test {R : Bool → Hp → Prop} (h : te σ H fun x H1 => blK x H1 R) : tTest te σ H R := h
theorem n_tB {R : Bool → Hp → Prop} (h : te σ H fun x H1 => blK x H1 R) : tB te σ H R := h
theorem n_and {R : Bool → Hp → Prop} (h : tt σ H fun c H1 => if c = true then tu σ H1 R else R false H1) : tAnd tt tu σ H R := h
theorem n_or {R : Bool → Hp → Prop} (h : tt σ H fun c H1 => if c = true then R true H1 else tu σ H1 R) : tOr tt tu σ H R := h
theorem n_not {R : Bool → Hp → Prop} (h : tt σ H fun c H1 => R (!c) H1) : tNot tt σ H R := h
def bfK (x : V) (H : Hp) (A B : Hp → Prop) : Prop := ∃ c, x = .bl c ∧ if c = true then A H else B H
theorem n_bfK {b : Bool} {A B : Hp → Prop} (q : if b = true then A H else B H) : bfK (.bl b) H A B := ⟨b, rfl, q⟩
theorem n_andV (h : ta σ H fun x H1 => bfK x H1 (fun H2 => tb σ H2 Q) fun H2 => Q (.bl false) H2) : tAndV ta tb σ H Q := h
theorem n_orV (h : ta σ H fun x H1 => bfK x H1 (fun H2 => Q (.bl true) H2) fun H2 => tb σ H2 Q) : tOrV ta tb σ H Q := h
theorem n_notV (h : ta σ H fun x H1 => blK x H1 fun c H2 => Q (.bl (!c)) H2) : tNotV ta σ H Q := h
theorem n_if (h : tt σ H fun c H1 => if c = true then ta σ H1 Q else tb σ H1 Q) : tIf tt ta tb σ H Q := h
theorem n_ifS (h : tt σ H fun b H1 => if b = true then ts D σ H1 else us D σ H1) : tIfS tt ts us D σ H := h
theorem n_next (h : D.nx σ H) : tNext D σ H := h
theorem n_ret (h : te σ H D.rt) : tRet te D σ H := h
theorem n_retN (h : D.rt .non H) : tRetN D σ H := h
theorem n_drop (h : te σ H fun _ H1 => D.nx σ H1) : tDrop te D σ H := h
theorem n_nil {R : List V → Hp → Prop} (q : R [] H) : tNil σ H R := q
theorem n_cons {R : List V → Hp → Prop} (h : te σ H fun x H1 => as_ σ H1 fun xs H2 => R (x :: xs) H2) : tCons te as_ σ H R := h
def mkT (xs : List V) (H : Hp) (Q : VK) : Prop := xs.length ≤ sizeLine ∧ ∀ p, H p = none → Q (.ref p) (upd H p (.tup xs))
def mkL (xs : List V) (H : Hp) (Q : VK) : Prop := xs.length ≤ sizeLine ∧ ∀ p, H p = none → Q (.ref p) (upd H p (.lst xs))
theorem sz_ok {n : Nat} (h : n ≤ 100000) : n ≤ sizeLine := Nat.le_trans h (by decide)
theorem sz_lt {n : Nat} (h : n < 100000) : n < sizeLine := Nat.lt_of_lt_of_le h (by decide)
theorem n_mkT {xs : List V} (h : xs.length ≤ 100000) (q : ∀ p, H p = none → Q (.ref p) (upd H p (.tup xs))) : mkT xs H Q := ⟨sz_ok h, q⟩
theorem n_mkL {xs : List V} (h : xs.length ≤ 100000) (q : ∀ p, H p = none → Q (.ref p) (upd H p (.lst xs))) : mkL xs H Q := ⟨sz_ok h, q⟩
theorem n_tup (h : as_ σ H fun xs H1 => mkT xs H1 Q) : tTup as_ σ H Q := h
theorem n_lst (h : as_ σ H fun xs H1 => mkL xs H1 Q) : tLst as_ σ H Q := h
/-! calls -/
theorem n_call {sp : Sp} {dvs : List V} {E : XK} (h : as_ σ H fun vs H1 => sp (vs ++ dvs) H1 Q E) : tCall sp dvs E as_ σ H Q := h
def methK (C : Addr) (m : Str) (x : V) (H : Hp) (R : Hp → Prop) : Prop := ∃ a dx fs, x = .ref a ∧ H a = some (.ins C dx fs) ∧ fs.lookup m = none ∧ R H
theorem n_methK {C a dx : Addr} {m : Str} {fs : List (Str × V)} {R : Hp → Prop} (h : H a = some (.ins C dx fs)) (l : fs.lookup m = none) (q : R H) : methK C m (.ref a) H R := ⟨a, dx, fs, rfl, h, l, q⟩
theorem n_meth {C : Addr} {m : Str} {sp : Sp} {dvs : List V} {E : XK} (h : ta σ H fun x H1 => methK C m x H1 fun H1 => as_ σ H1 fun vs H2 => sp (x :: (vs ++ dvs)) H2 Q E) : tMeth C m sp dvs E ta as_ σ H Q := by
  exact h
theorem n_callN {n m : Nat} {sp : Sp} {gV : List V → List V → List V} {E : XK} {tk : TA} (h : as_ σ H fun vs H1 => tk σ H1 fun zs H2 => vs.length = n ∧ zs.length = m ∧ sp (gV vs zs) H2 Q E) : tCallN n m sp gV E as_ tk σ H Q := h
theorem n_methN {C : Addr} {m : Str} {n j : Nat} {sp : Sp} {gV : List V → List V → List V} {E : XK} {tk : TA}
    (h : ta σ H fun x H1 => methK C m x H1 fun H1 => as_ σ H1 fun vs H2 => tk σ H2 fun zs H3 => vs.length = n ∧ zs.length = j ∧ sp (gV (x :: vs) zs) H3 Q E) : tMethN C m n j sp gV E ta as_ tk σ H Q := h
def makeK (C : Addr) (H : Hp) (R : Addr → Hp → Prop) : Prop := ∀ x dx, H x = none → H dx = none → dx ≠ x → R x (upd (upd H dx (.own x)) x (.ins C dx []))
theorem n_make {C : Addr} {sp : Sp} {dvs : List V} {E : XK} (h : as_ σ H fun vs H1 => makeK C H1 fun x H2 => sp (.ref x :: (vs ++ dvs)) H2 (fun v H3 => v = .non ∧ Q (.ref x) H3) E) : tMake C sp dvs E as_ σ H Q := h
theorem n_makeN {C : Addr} {n m : Nat} {sp : Sp} {gV : List V → List V → List V} {E : XK} {tk : TA}
    (h : as_ σ H fun vs H1 => tk σ H1 fun zs H2 => vs.length = n ∧ zs.length = m ∧ makeK C H2 fun x H3 => sp (gV (.ref x :: vs) zs) H3 (fun v H3 => v = .non ∧ Q (.ref x) H3) E) : tMakeN C n m sp gV E as_ tk σ H Q := h
theorem n_CB {r : List V → Hp → VK → Prop} (h : as_ σ H fun vs H1 => r vs H1 Q) : tCB r as_ σ H Q := h
def tyK (K : PySem.W.Frag) (T : String) (x : V) (H : Hp) (R : Hp → Prop) : Prop := tyV K T x H ∧ R H
theorem n_tyL {a : Addr} {xs : List V} {R : Hp → Prop} (h : H a = some (.lst xs)) (q : R H) : tyK K "list" (.ref a) H R := ⟨.inl ⟨rfl, _, SqL.of h⟩, q⟩
theorem n_tyLK {a : Addr} {xs : List V} {R : Hp → Prop} (h : SqL K H a xs) (q : R H) : tyK K "list" (.ref a) H R := ⟨.inl ⟨rfl, _, h⟩, q⟩
theorem n_tyS {s : Str} {R : Hp → Prop} (q : R H) : tyK K "str" (.str s) H R := ⟨rfl, q⟩
theorem n_BM {T : String} {r : V → List V → Hp → VK → Prop} (h : to σ H fun x H1 => tyK K T x H1 fun H1 => as_ σ H1 fun xs H2 => r x xs H2 Q) : tBM K T r to as_ σ H Q := h
theorem n_BM0 {T : String} {r : V → List V → Hp → VK → Prop} (h : to σ H fun x H1 => tyK K T x H1 fun H1 => r x [] H1 Q) : tBM0 K T r to σ H Q := h
/-! lists -/
theorem n_append {l : Addr} {xs : List V} (h : H l = some (.lst xs)) (hz : xs.length < 100000) (q : Q .non (upd H l (.lst (xs ++ [y])))) : rAppend (.ref l) [y] H Q := ⟨l, xs, y, rfl, rfl, h, sz_lt hz, q⟩
theorem n_pop {l : Addr} {xs : List V} (h : H l = some (.lst xs)) (e : xs[xs.length - 1]? = some y) (q : Q y (upd H l (.lst xs.dropLast))) : rPop (.ref l) [] H Q := ⟨l, xs, y, rfl, rfl, h, e, q⟩
theorem n_ixL {p : Addr} {xs : List V} (h : SqL K H p xs) (e : atI xs i = some v) (q : Q v H) : rIxL K (.ref p) (.int i) H Q := ⟨p, xs, i, v, rfl, rfl, h, e, q⟩
theorem n_ixT {p : Addr} {xs : List V} (h : SqT K H p xs) (e : atI xs i = some v) (q : Q v H) : rIxT K (.ref p) (.int i) H Q := ⟨p, xs, i, v, rfl, rfl, h, e, q⟩
theorem n_ixS {s : Str} {c : Nat} (hz : s.length ≤ 100000) (e : atI s.cps.toList i = some c) (q : Q (.str ⟨#[c]⟩) H) : rIxS (.str s) (.int i) H Q := ⟨s, i, c, rfl, rfl, sz_ok hz, e, q⟩
def revK (K : PySem.W.Frag) (x : V) (H : Hp) (Q : VK) : Prop := ∃ a xs, x = .ref a ∧ SqL K H a xs ∧ ∀ p, H p = none → Q (.ref p) (upd H p (.lst xs.reverse))
theorem n_revK {a : Addr} {xs : List V} (h : SqL K H a xs) (q : ∀ p, H p = none → Q (.ref p) (upd H p (.lst xs.reverse))) : revK K (.ref a) H Q := ⟨a, xs, rfl, h, q⟩
theorem n_revL (h : te σ H fun x H1 => revK K x H1 Q) : tRevL K te σ H Q := h
theorem n_sl {r : V → Option Int → Option Int → Hp → VK → Prop} {tl th : TO} (h : te σ H fun x H1 => tl σ H1 fun l H2 => th σ H2 fun u H3 => r x l u H3 Q) : L2.tSl r te tl th σ H Q := h
def partK (x : V) (H : Hp) (R : Option Int → Hp → Prop) : Prop := ∃ i, x = .int i ∧ R (some i) H
theorem n_partK {R : Option Int → Hp → Prop} (q : R (some i) H) : partK (.int i) H R := ⟨i, rfl, q⟩
theorem n_part {R : Option Int → Hp → Prop} (h : te σ H fun x H1 => partK x H1 R) : tPart te σ H R := h
theorem n_noPart {R : Option Int → Hp → Prop} (q : R none H) : tNoPart σ H R := q
theorem n_slL {a : Addr} {xs : List V} {lo hi : Option Int} (h : SqL K H a xs) (q : ∀ p, H p = none → Q (.ref p) (upd H p (.lst (cutV xs lo hi)))) : rSlL K (.ref a) lo hi H Q := ⟨a, xs, rfl, h, q⟩
def lenK (K : PySem.W.Frag) : List V → Hp → VK → Prop := fun xs H Q => ∃ p ys, xs = [.ref p] ∧ (SqL K H p ys ∨ SqT K H p ys) ∧ Q (.int ys.length) H
def listK (K : PySem.W.Frag) : List V → Hp → VK → Prop := fun xs H Q => ∃ p ys, xs = [.ref p] ∧ (SqL K H p ys ∨ SqT K H p ys) ∧ ∀ l, H l = none → Q (.ref l) (upd H l (.lst ys))
theorem n_listK {p : Addr} {ys : List V} (h : SqL K H p ys ∨ SqT K H p ys) (q : ∀ l, H l = none → Q (.ref l) (upd H l (.lst ys))) : listK K [.ref p] H Q := ⟨p, ys, rfl, h, q⟩
theorem n_setL {p : Addr} {xs : List V} {k : Int} {m : Nat} {R : Hp → Prop} (h : H p = some (.lst xs)) (e : ixN xs.length k = some m) (q : R (upd H p (.lst (xs.set m v)))) : rSetL (.ref p) (.int k) v H R := ⟨p, xs, k, m, rfl, rfl, h, e, q⟩
theorem n_sub {ti : TE} {t : TSet} {R : L2.St → Hp → Prop} (h : to σ H fun o H1 => ti σ H1 fun i H2 => t o i v H2 fun H3 => R σ H3) : gSub to ti t v σ H R := h
/-! targets -/
theorem n_gTup {a : Addr} {xs : List V} {t : TGs} {R : L2.St → Hp → Prop} (h : SqT K H a xs) (l : xs.length = n) (q : t xs σ H R) : gTup K n t (.ref a) σ H R := ⟨a, xs, rfl, h, l, q⟩
theorem n_gCons {t : TG} {u : TGs} {vs : List V} {R : L2.St → Hp → Prop} (q : t v σ H fun σ' H' => u vs σ' H' R) : gCons t u (v :: vs) σ H R := ⟨v, vs, rfl, q⟩
theorem n_gNil {R : L2.St → Hp → Prop} (q : R σ H) : gNil [] σ H R := ⟨rfl, q⟩
/-! fields -/
def fldK (K : PySem.W.Frag) (f : Str) (x : V) (H : Hp) (Q : VK) : Prop := ∃ a C dx fs v, x = .ref a ∧ H a = some (.ins C dx fs) ∧ Cls K C ∧ NoAttr K C f ∧ fs.lookup f = some v ∧ Q v H
theorem n_fldK {a C dx : Addr} {f : Str} {fs : List (Str × V)} (h : H a = some (.ins C dx fs)) (c : Cls K C) (no : NoAttr K C f) (l : fs.lookup f = some v) (q : Q v H) : fldK K f (.ref a) H Q := ⟨a, C, dx, fs, v, rfl, h, c, no, l, q⟩
theorem n_fld {f : Str} (h : ta σ H fun x H1 => fldK K f x H1 Q) : tFld K ta f σ H Q := h
def sfldK (K : PySem.W.Frag) (f : Str) (y x : V) (H : Hp) (R : Hp → Prop) : Prop := ∃ a C dx fs, x = .ref a ∧ H a = some (.ins C dx fs) ∧ Cls K C ∧ NoAttr K C f ∧ fs.length < 1000 ∧ R (upd H a (.ins C dx (putF f y fs)))
theorem n_sfldK {a C dx : Addr} {f : Str} {fs : List (Str × V)} {R : Hp → Prop} (h : H a = some (.ins C dx fs)) (c : Cls K C) (no : NoAttr K C f) (l : fs.length < 1000) (q : R (upd H a (.ins C dx (putF f y fs)))) : sfldK K f y (.ref a) H R := ⟨a, C, dx, fs, rfl, h, c, no, l, q⟩
theorem n_sfld {f : Str} (h : tv σ H fun y H1 => ta σ H1 fun x H2 => sfldK K f y x H2 fun H3 => D.nx σ H3) : sFld K ta tv f D σ H := h
/-! dicts -/
def dgetK (x y : V) (H : Hp) (Q : VK) : Prop := ∃ a v, x = .ref a ∧ DGet H a y (some v) ∧ Q v H
theorem n_dgetK {a : Addr} {kvs : List (Key × V)} {k : Key} (h : H a = some (.dK kvs)) (e : valV kvs k = some v) (q : Q v H) : dgetK (.ref a) (kV k) H Q := ⟨a, v, rfl, by rw [← e]; exact DGet.k h, q⟩
theorem n_dgetS {a : Addr} {kvs : List (Key × V)} {k : Str} (h : H a = some (.dK kvs)) (e : valV kvs (.inr k : Key) = some v) (q : Q v H) : dgetK (.ref a) (.str k) H Q := n_dgetK (k := .inr k) h e q
theorem n_dgetI {a : Addr} {kvs : List (Key × V)} {k : Int} (h : H a = some (.dK kvs)) (e : valV kvs (.inl k : Key) = some v) (q : Q v H) : dgetK (.ref a) (.int k) H Q := n_dgetK (k := .inl k) h e q
theorem n_dget (h : td σ H fun x H1 => ty σ H1 fun y H2 => dgetK x y H2 Q) : tDGet td ty σ H Q := h
def dputK (x y v : V) (H : Hp) (R : Hp → Prop) : Prop := ∃ a H4, x = .ref a ∧ DPut H a y v H4 ∧ R H4
theorem n_dputS {a : Addr} {kvs : List (Key × V)} {k : Str} {R : Hp → Prop} (h : H a = some (.dK kvs)) (hz : kvs.length < 100000) (q : R (upd H a (.dK (putK kvs (.inr k) v)))) : dputK (.ref a) (.str k) v H R := ⟨a, _, rfl, DPut.k (k := .inr k) h (sz_lt hz), q⟩
theorem n_dput (h : tv σ H fun v H1 => td σ H1 fun x H2 => ty σ H2 fun y H3 => dputK x y v H3 fun H4 => D.nx σ H4) : sDPut td ty tv D σ H := h
def dinK (x y : V) (H : Hp) (neg : Bool) (Q : VK) : Prop := ∃ a o, x = .ref a ∧ DGet H a y o ∧ Q (.bl (if neg then !o.isSome else o.isSome)) H
theorem n_dinS {a : Addr} {kvs : List (Key × V)} {k : Str} {neg : Bool} (h : H a = some (.dK kvs)) (q : Q (.bl (if neg then !(valV kvs (.inr k : Key)).isSome else (valV kvs (.inr k : Key)).isSome)) H) : dinK (.ref a) (.str k) H neg Q := ⟨a, _, rfl, DGet.k (k := .inr k) h, q⟩
theorem n_din (h : ty σ H fun y H1 => td σ H1 fun x H2 => dinK x y H2 false Q) : tDIn ty td σ H Q := h
theorem n_dnin (h : ty σ H fun y H1 => td σ H1 fun x H2 => dinK x y H2 true Q) : tDNotIn ty td σ H Q := h
theorem n_disp {trs : List (TE × TE)} (h : ∀ p, H p = none → tPairs trs σ (upd H p (.dK [])) fun ps H2 => H2 p = some (.dK []) ∧ ∃ kvs : List (Key × V), ps = kvs.map (fun kv => (kV kv.1, kv.2)) ∧ kvs.length ≤ 15 ∧ Q (.ref p) (upd H2 p (.dK (mergeK [] kvs)))) : tDisp trs σ H Q := h
theorem n_pNil {R : List (V × V) → Hp → Prop} (q : R [] H) : tPairs [] σ H R := q
theorem n_pCons {trs : List (TE × TE)} {R : List (V × V) → Hp → Prop} (h : ta σ H fun k H1 => tb σ H1 fun v H2 => tPairs trs σ H2 fun ps H3 => R ((k, v) :: ps) H3) : tPairs ((ta, tb) :: trs) σ H R := h
theorem n_iteT {c : Bool} {A B : Prop} (hc : c = true) (h : A) : if c = true then A else B := by rw [hc]; exact h
theorem n_iteF {c : Bool} {A B : Prop} (hc : c = false) (h : B) : if c = true then A else B := by rw [hc]; exact h
end
/-! ### what a heap keeps -/
/-- all objects of H stand in H', but those at M -/
def KeepBut (M : List Addr) (H H' : Hp) : Prop := ∀ a o, H a = some o → a ∉ M → H' a = some o
section
variable {M M' : List Addr} {H H1 H2 : Hp} {p a : Addr} {o u : HO}
theorem KeepBut.refl : KeepBut M H H := fun _ _ h _ => h
theorem KeepBut.trans (k : KeepBut M H H1) (k' : KeepBut M H1 H2) : KeepBut M H H2 := fun a o h n => k' a o (k a o h n) n
theorem KeepBut.new (k : KeepBut M H H1) (hp : H1 p = none) : KeepBut M H (upd H1 p u) := fun a o h n => by
  have h1 := k a o h n
  rw [upd_ne (ne_of_none h1 hp)]
  exact h1
theorem KeepBut.mut (k : KeepBut M H H1) (hp : p ∈ M ∨ H p = none) : KeepBut M H (upd H1 p u) := fun a o h n => by
  rw [upd_ne ?_]
  · exact k a o h n
  · rintro rfl
    rcases hp with hp | hp
    · exact n hp
    · rw [hp] at h; cases h
/-- behind a call that may change M' -/
theorem KeepBut.call (k : KeepBut M H H1) (k' : KeepBut M' H1 H2) (hs : ∀ b ∈ M', b ∈ M ∨ H b = none) : KeepBut M H H2 := fun a o h n => k' a o (k a o h n) fun z => by
  rcases hs a z with q | q
  · exact n q
  · rw [q] at h; cases h
theorem KeepBut.mono (k : KeepBut M H H1) (hs : ∀ b ∈ M, b ∈ M') : KeepBut M' H H1 := fun a o h n => k a o h fun z => n (hs a z)
theorem KeepBut.back (k : KeepBut M H H1) (h : H1 a = none) (n : a ∉ M) : H a = none := by
  cases e : H a with
  | none => rfl
  | some o => rw [k a o e n] at h; cases h
theorem look_new (h : H a = some o) (hp : H p = none) : upd H p u a = some o := by
  rw [upd_ne (ne_of_none h hp)]; exact h
theorem look_ne (n : a ≠ p) (h : H a = some o) : upd H p u a = some o := by rw [upd_ne n]; exact h
theorem look_keep (k : KeepBut M H H1) (h : H a = some o) (n : a ∉ M) : H1 a = some o := k a o h n
theorem nm0 : a ∉ ([] : List Addr) := by simp
theorem nm1 {b : Addr} (h : a ≠ b) : a ∉ [b] := by simpa using h
theorem nm2 {b c : Addr} (h : a ≠ b) (h' : a ≠ c) : a ∉ [b, c] := by simpa using ⟨h, h'⟩
theorem nm3 {b c d : Addr} (h : a ≠ b) (h' : a ≠ c) (h'' : a ≠ d) : a ∉ [b, c, d] := by simpa using ⟨h, h', h''⟩
end
end LM

namespace LM
open PySem PySem.Spec PyProof.Rows L2
/-! ### == of data -/
section
variable {K : PySem.W.Frag} {H : Hp} {Q : VK} {x y : V} {d e : PyData}
theorem n_eqD (hx : Dp K H x d) (hy : Dp K H y e) (sd : SeqAt.shaped d = true) (se : SeqAt.shaped e = true) (q : Q (.bl (PyData.eqv d e)) H) : rEqD K x y H Q := ⟨d, e, hx, hy, sd, se, q⟩
theorem n_neD (hx : Dp K H x d) (hy : Dp K H y e) (sd : SeqAt.shaped d = true) (se : SeqAt.shaped e = true) (q : Q (.bl (!PyData.eqv d e)) H) : rNeD K x y H Q := ⟨d, e, hx, hy, sd, se, q⟩
theorem dpAll_ints : ∀ ns : List Int, DpAll K H (ns.map V.int) (ns.map PyData.int)
  | [] => .nil
  | n :: ns => .cons (.int n) (dpAll_ints ns)
theorem dp_ints {a : Addr} {ns : List Int} (h : SqL K H a (ns.map V.int)) : Dp K H (.ref a) (.list (ns.map PyData.int)) := .lst h (dpAll_ints ns)
theorem canLay_ints : ∀ ns : List Int, PyData.canLayAll0 (ns.map PyData.int) = true
  | [] => by simp [PyData.canLayAll0]
  | n :: ns => by simp [PyData.canLayAll0, PyData.canLay0, canLay_ints ns]
theorem depth_ints : ∀ ns : List Int, PyData.depthAll (ns.map PyData.int) = 0
  | [] => by simp [PyData.depthAll]
  | n :: ns => by simp [PyData.depthAll, PyData.depth, depth_ints ns]
theorem shaped_ints (ns : List Int) : SeqAt.shaped (.list (ns.map PyData.int)) = true := by
  unfold SeqAt.shaped
  rw [Bool.and_eq_true]
  refine ⟨?_, ?_⟩
  · simp [PyData.canLay0, canLay_ints ns]
  · simp [PyData.depth, depth_ints ns]
theorem eqv_ints_nil (ns : List Int) : PyData.eqv (.list (ns.map PyData.int)) (.list ([].map PyData.int)) = ns.isEmpty := by
  cases ns <;> simp [PyData.eqv, PyData.eqvAll]
theorem eqvAll_ints : ∀ ns ms : List Int, PyData.eqvAll (ns.map PyData.int) (ms.map PyData.int) = decide (ns = ms)
  | [], [] => by simp [PyData.eqvAll]
  | [], _ :: _ => by simp [PyData.eqvAll]
  | _ :: _, [] => by simp [PyData.eqvAll]
  | n :: ns, m :: ms => by
    simp only [List.map_cons, PyData.eqvAll, PyData.eqv, eqvAll_ints ns ms]
    by_cases h : n = m <;> simp [h]
theorem eqv_ints (ns ms : List Int) : PyData.eqv (.list (ns.map PyData.int)) (.list (ms.map PyData.int)) = decide (ns = ms) := by
  simp only [PyData.eqv]
  exact eqvAll_ints ns ms
/-- a list of ints against the empty one -/
theorem n_neNil {a b : Addr} {ns : List Int} (h : SqL K H a (ns.map V.int)) (h' : SqL K H b []) (q : Q (.bl (!ns.isEmpty)) H) : rNeD K (.ref a) (.ref b) H Q :=
  n_neD (dp_ints h) (dp_ints (ns := []) h') (shaped_ints ns) (shaped_ints []) (by rw [eqv_ints_nil]; exact q)
theorem n_eqInts {a b : Addr} {ns ms : List Int} (h : SqL K H a (ns.map V.int)) (h' : SqL K H b (ms.map V.int)) (q : Q (.bl (decide (ns = ms))) H) : rEqD K (.ref a) (.ref b) H Q :=
  n_eqD (dp_ints h) (dp_ints h') (shaped_ints ns) (shaped_ints ms) (by rw [eqv_ints]; exact q)
end
/-! ### built-in calls, their readings named -/
def rMax2 : List V → Hp → VK → Prop := fun xs H Q => ∃ i j, xs = [V.int i, V.int j] ∧ Q (.int (if j > i then j else i)) H
def rMin2 : List V → Hp → VK → Prop := fun xs H Q => ∃ i j, xs = [V.int i, V.int j] ∧ Q (.int (if j < i then j else i)) H
def rAbs1 : List V → Hp → VK → Prop := fun xs H Q => ∃ i, xs = [V.int i] ∧ Q (.int (if i < 0 then -i else i)) H
def rInt1 : List V → Hp → VK → Prop := fun xs H Q => (∃ i, xs = [V.int i] ∧ Q (.int i) H) ∨ ∃ k, xs = [V.bl k] ∧ Q (.int (if k then 1 else 0)) H
def rLenStr : List V → Hp → VK → Prop := fun xs H Q => ∃ z : Str, xs = [V.str z] ∧ z.length ≤ sizeLine ∧ Q (.int z.length) H
def rTupleOf (K : PySem.W.Frag) : List V → Hp → VK → Prop := fun xs H Q => ∃ p ys, xs = [V.ref p] ∧ ((SqL K H p ys ∧ ∀ l, H l = none → Q (.ref l) (upd H l (.tup ys))) ∨ (SqT K H p ys ∧ Q (.ref p) H))
def rLenRng : List V → Hp → VK → Prop := fun xs H Q => ∃ p lo hi, xs = [V.ref p] ∧ H p = some (.rng lo hi) ∧ hi - lo < 2 ^ 63 ∧ Q (.int (if lo < hi then hi - lo else 0)) H
def rRng1 : List V → Hp → VK → Prop := fun vs H Q => ∃ j, vs = [V.int j] ∧ ∀ p, H p = none → Q (.ref p) (upd H p (.rng 0 j))
def rRng2 : List V → Hp → VK → Prop := fun vs H Q => ∃ i j, vs = [V.int i, V.int j] ∧ ∀ p, H p = none → Q (.ref p) (upd H p (.rng i j))
def rAddStr : R2 := fun x y H Q => ∃ i j : Str, x = .str i ∧ y = .str j ∧ i.length + j.length ≤ sizeLine ∧ Q (.str (i ++ j)) H
def rIsNone : R2 := fun x y H Q => y = .non ∧ Q (.bl (decide (x = .non))) H
def rIsNotNone : R2 := fun x y H Q => y = .non ∧ Q (.bl (!decide (x = .non))) H
section
variable {X : Cx}
theorem cb_max2 (hc : X.calm = true) : CallR X (.builtin "max") rMax2 := call_max2 hc
theorem cb_min2 (hc : X.calm = true) : CallR X (.builtin "min") rMin2 := call_min2 hc
theorem cb_abs : CallR X (.builtin "abs") rAbs1 := call_abs
theorem cb_int : CallR X (.type "int") rInt1 := call_int1
theorem cb_len : CallR X (.builtin "len") (lenK X.K) := call_len_seq
theorem cb_lenS : CallR X (.builtin "len") rLenStr := call_len_str
theorem cb_lenR : CallR X (.builtin "len") rLenRng := call_len_rng
theorem cb_list : CallR X (.type "list") (listK X.K) := call_list_of
theorem cb_tuple : CallR X (.type "tuple") (rTupleOf X.K) := call_tuple_of
theorem cb_rng1 : CallR X (.type "range") rRng1 := cr_range1
theorem cb_rng2 : CallR X (.type "range") rRng2 := cr_range2
theorem ob_addS : OpR X (binaryOp .Add) rAddStr := op_add_str
theorem ob_isN : OpR X (compareOp .Is) rIsNone := op_isN
theorem ob_notN : OpR X (compareOp .IsNot) rIsNotNone := op_notN
theorem ob_mul : OpR X (binaryOp .Mult) (rI IntMulOk fun i j => .int (i * j)) := opI fun _ _ _ _ _ _ _ hc q => mul_int q hc
end
section
variable {K : PySem.W.Frag} {H : Hp} {Q : VK} {i j : Int} {p : Addr} {ys : List V} {x y : V} {s z : Str}
theorem n_max2 (q : Q (.int (if j > i then j else i)) H) : rMax2 [.int i, .int j] H Q := ⟨i, j, rfl, q⟩
theorem n_min2 (q : Q (.int (if j < i then j else i)) H) : rMin2 [.int i, .int j] H Q := ⟨i, j, rfl, q⟩
theorem n_abs1 (q : Q (.int (if i < 0 then -i else i)) H) : rAbs1 [.int i] H Q := ⟨i, rfl, q⟩
theorem n_intI (q : Q (.int i) H) : rInt1 [.int i] H Q := .inl ⟨i, rfl, q⟩
theorem n_intB {b : Bool} (q : Q (.int (if b then 1 else 0)) H) : rInt1 [.bl b] H Q := .inr ⟨b, rfl, q⟩
theorem n_lenL (h : SqL K H p ys) (q : Q (.int ys.length) H) : lenK K [.ref p] H Q := ⟨p, ys, rfl, .inl h, q⟩
theorem n_lenT (h : SqT K H p ys) (q : Q (.int ys.length) H) : lenK K [.ref p] H Q := ⟨p, ys, rfl, .inr h, q⟩
theorem n_lenS (h : s.length ≤ 100000) (q : Q (.int s.length) H) : rLenStr [.str s] H Q := ⟨s, rfl, sz_ok h, q⟩
theorem n_listL (h : SqL K H p ys) (q : ∀ l, H l = none → Q (.ref l) (upd H l (.lst ys))) : listK K [.ref p] H Q := ⟨p, ys, rfl, .inl h, q⟩
theorem n_listT (h : SqT K H p ys) (q : ∀ l, H l = none → Q (.ref l) (upd H l (.lst ys))) : listK K [.ref p] H Q := ⟨p, ys, rfl, .inr h, q⟩
theorem n_tupleL (h : SqL K H p ys) (q : ∀ l, H l = none → Q (.ref l) (upd H l (.tup ys))) : rTupleOf K [.ref p] H Q := ⟨p, ys, rfl, .inl ⟨h, q⟩⟩
theorem n_tupleT (h : SqT K H p ys) (q : Q (.ref p) H) : rTupleOf K [.ref p] H Q := ⟨p, ys, rfl, .inr ⟨h, q⟩⟩
theorem n_lenR {lo hi : Int} (h : H p = some (.rng lo hi)) (hz : hi - lo < 2 ^ 63) (q : Q (.int (if lo < hi then hi - lo else 0)) H) : rLenRng [.ref p] H Q := ⟨p, lo, hi, rfl, h, hz, q⟩
theorem n_rng1 (q : ∀ p, H p = none → Q (.ref p) (upd H p (.rng 0 j))) : rRng1 [.int j] H Q := ⟨j, rfl, q⟩
theorem n_rng2 (q : ∀ p, H p = none → Q (.ref p) (upd H p (.rng i j))) : rRng2 [.int i, .int j] H Q := ⟨i, j, rfl, q⟩
theorem n_addS (h : s.length + z.length ≤ 100000) (q : Q (.str (s ++ z)) H) : rAddStr (.str s) (.str z) H Q := ⟨s, z, rfl, rfl, sz_ok h, q⟩
theorem n_isN (q : Q (.bl (decide (x = .non))) H) : rIsNone x .non H Q := ⟨rfl, q⟩
theorem n_notN (q : Q (.bl (!decide (x = .non))) H) : rIsNotNone x .non H Q := ⟨rfl, q⟩
theorem n_mulI {f : Int → Int → V} (c : IntMulOk i j) (q : Q (f i j) H) : rI IntMulOk f (.int i) (.int j) H Q := ⟨i, j, rfl, rfl, c, q⟩
theorem mulL (h1 : -(2 ^ 64) < i) (h2 : i < 2 ^ 64) : IntMulOk i j := CMul.ok (.inl ⟨h1, h2⟩)
theorem mulR (h1 : -(2 ^ 64) < j) (h2 : j < 2 ^ 64) : IntMulOk i j := CMul.ok (.inr ⟨h1, h2⟩)
theorem isi_base {x : V} {a b : String} {r : Bool} (ty : TyOf K H x (.type a)) (h : kitB a b = some r) (q : Q (.bl r) H) : rIsi K [x, .ty b] H Q := ⟨x, .ty b, .type a, .type b, r, rfl, .ty b, .base ty, kit_ty h, q⟩
theorem isi_int_int (q : Q (.bl true) H) : rIsi K [.int i, .ty "int"] H Q := isi_base (.int i) (by decide +kernel) q
theorem isi_int_bool (q : Q (.bl false) H) : rIsi K [.int i, .ty "bool"] H Q := isi_base (.int i) (by decide +kernel) q
end
/-! ### e.f op= value -/
section
variable {K : PySem.W.Frag} {σ : L2.St} {H : Hp} {Q : VK} {D : Ends} {ta tv : TE} {i j : Int} {v z : V}
/-- the last item of a list that isn't empty -/
theorem last_of {α : Type} {l : List α} (h : l ≠ []) : ∃ r x, l = r ++ [x] := ⟨l.dropLast, l.getLast h, (List.dropLast_concat_getLast h).symm⟩
def augK (K : PySem.W.Frag) (f : Str) (x : V) (H : Hp) (R : Addr → Addr → V → Hp → Prop) : Prop := ∃ a C dx fs v, x = .ref a ∧ H a = some (.ins C dx fs) ∧ Cls K C ∧ NoAttr K C f ∧ fs.lookup f = some v ∧ R a C v H
def augE (f : Str) (a C : Addr) (z : V) (H : Hp) (R : Hp → Prop) : Prop := ∃ dx' fs', H a = some (.ins C dx' fs') ∧ fs'.length < 1000 ∧ R (upd H a (.ins C dx' (putF f z fs')))
theorem n_fldaug {f : Str} {rd : V → V → Hp → VK → Prop} (h : ta σ H fun x H1 => augK K f x H1 fun a C v H1 => tv σ H1 fun y H2 => rd v y H2 fun z H3 => augE f a C z H3 fun H4 => D.nx σ H4) : sFldAug K ta tv rd f D σ H := by
  refine h
theorem n_augK {a C dx : Addr} {f : Str} {fs : List (Str × V)} {R : Addr → Addr → V → Hp → Prop} (h : H a = some (.ins C dx fs)) (c : Cls K C) (no : NoAttr K C f) (l : fs.lookup f = some v) (q : R a C v H) : augK K f (.ref a) H R := ⟨a, C, dx, fs, v, rfl, h, c, no, l, q⟩
theorem n_augE {a C dx : Addr} {f : Str} {fs : List (Str × V)} {R : Hp → Prop} (h : H a = some (.ins C dx fs)) (l : fs.length < 1000) (q : R (upd H a (.ins C dx (putF f z fs)))) : augE f a C z H R := ⟨dx, fs, h, l, q⟩
theorem n_rAdd (q : Q (.int (i + j)) H) : rAdd (.int i) (.int j) H Q := ⟨i, j, rfl, rfl, q⟩
theorem n_rSub (q : Q (.int (i - j)) H) : rSub (.int i) (.int j) H Q := ⟨i, j, rfl, rfl, q⟩
end
/-! ### lists of ints -/
section
variable {K : PySem.W.Frag} {H H1 : Hp} {Q : VK} {l a p : Addr} {ns r : List Int} {x z : Int} {xs : List V} {u : HO} {M : List Addr}
theorem n_popI (h : H l = some (.lst ((r ++ [x]).map V.int))) (q : Q (.int x) (upd H l (.lst (r.map V.int)))) : rPop (.ref l) [] H Q := by
  refine n_pop (y := .int x) h (by simp) ?_
  rw [List.map_append, List.map_cons, List.map_nil, List.dropLast_concat]
  exact q
theorem n_appI (h : H l = some (.lst (ns.map V.int))) (hz : ns.length < 100000) (q : Q .non (upd H l (.lst ((ns ++ [z]).map V.int)))) : rAppend (.ref l) [.int z] H Q := by
  refine n_append h (by rw [List.length_map]; exact hz) ?_
  rw [List.map_append] at q
  exact q
theorem rd_keep (k : KeepBut M H H1) (h : Rd H a u) (n : a ∉ M) : Rd H1 a u := by
  rcases h with h | ⟨o, h⟩
  · exact .inl (k a _ h n)
  · exact .inr ⟨o, k a _ h n⟩
theorem sqL_keep (k : KeepBut M H H1) (h : SqL K H a xs) (n : a ∉ M) : SqL K H1 a xs := by
  rcases h with h | h
  · exact .inl (rd_keep k h n)
  · exact .inr h
theorem sqT_keep (k : KeepBut M H H1) (h : SqT K H a xs) (n : a ∉ M) : SqT K H1 a xs := by
  rcases h with h | h
  · exact .inl (rd_keep k h n)
  · exact .inr h
theorem sqL_new (h : SqL K H a xs) (hp : H p = none) : SqL K (upd H p u) a xs := sqL_keep (M := []) (KeepBut.refl.new hp) h (by simp)
theorem sqT_new (h : SqT K H a xs) (hp : H p = none) : SqT K (upd H p u) a xs := sqT_keep (M := []) (KeepBut.refl.new hp) h (by simp)
theorem sqL_ne (n : a ≠ p) (h : SqL K H a xs) : SqL K (upd H p u) a xs := sqL_keep (M := [p]) (KeepBut.refl.mut (.inl (by simp))) h (nm1 n)
theorem KeepBut.newT (k : KeepBut M H H1) (hp : H1 p = none) : KeepBut M H (upd H1 p u) := k.new hp
theorem KeepBut.mutT (k : KeepBut M H H1) (hp : p ∈ M) : KeepBut M H (upd H1 p u) := k.mut (.inl hp)
theorem KeepBut.mutF (k : KeepBut M H H1) (hp : H p = none) : KeepBut M H (upd H1 p u) := k.mut (.inr hp)
theorem KeepBut.callT {M' : List Addr} {H2 : Hp} (k' : KeepBut M' H1 H2) (k : KeepBut M H H1) (hs : ∀ b ∈ M', b ∈ M) : KeepBut M H H2 := k.call k' fun b hb => .inl (hs b hb)
theorem look_as {o o' : HO} (h : H a = some o) (e : o = o') : H a = some o' := by rw [← e]; exact h
theorem free_new (h : upd H a u p = none) : H p = none := by
  by_cases e : p = a
  · subst e
    rw [upd_same] at h
    cases h
  · rw [upd_ne e] at h
    exact h
theorem KeepBut.free {a : Addr} (k : KeepBut M H H1) (h : H1 a = none) (n : a ∉ M) : H a = none := k.back h n
end
/-! ### records: dicts with written keys -/
def recK (fs : List (Str × V)) : List (Key × V) := fs.map fun p => (.inr p.1, p.2)
theorem valV_rec : ∀ (fs : List (Str × V)) (k : Str), valV (recK fs) (.inr k : Key) = fs.lookup k
  | [], k => rfl
  | (a, v) :: fs, k => by
    have ih := valV_rec fs k
    unfold valV recK at ih ⊢
    by_cases h : a = k
    · subst h
      simp [List.lookup]
    · have h1 : (k == a) = false := by simpa using fun e : k = a => h e.symm
      simp only [List.map_cons, List.find?_cons, key_rr, decide_eq_false h]
      rw [ih]
      simp [List.lookup, h1]
theorem any_rec : ∀ (fs : List (Str × V)) (k : Str), ((recK fs).any fun kv => decide (kv.1 = (.inr k : Key))) = fs.any fun p => decide (p.1 = k)
  | [], k => rfl
  | (a, v) :: fs, k => by
    have ih := any_rec fs k
    simp only [recK, List.map_cons, List.any_cons, key_rr] at ih ⊢
    rw [ih]
theorem consIte {α : Type} {c : Bool} {A B R : List α} {x : α} (e : (if c = true then A else B) = R) : (if c = true then x :: A else x :: B) = x :: R := by
  subst e
  cases c <;> rfl
theorem putK_rec_aux : ∀ (fs : List (Str × V)) (k : Str) (v : V), (fs.map Prod.fst).Nodup → putK (recK fs) (.inr k) v = recK (putF k v fs)
  | [], k, v, _ => rfl
  | (a, x) :: fs, k, v, nd => by
    have nd2 := List.nodup_cons.mp nd
    have ih := putK_rec_aux fs k v nd2.2
    by_cases h : a = k
    · subst h
      have hp : putF a v ((a, x) :: fs) = (a, v) :: fs := by simp [putF]
      have out : ∀ p ∈ fs, ¬ p.1 = a := fun p hp e => nd2.1 (List.mem_map.mpr ⟨p, hp, e⟩)
      rw [hp]
      unfold putK
      simp only [recK, List.map_cons, List.any_cons, key_rr, decide_true, Bool.true_or, if_true]
      congr 1
      rw [List.map_map]
      refine List.map_congr_left fun p hp => ?_
      have q : ¬ (Sum.inr p.1 : Key) = Sum.inr a := fun e => out p hp (Sum.inr.inj e)
      simp [q]
    · have hp : putF k v ((a, x) :: fs) = (a, x) :: putF k v fs := by simp [putF, h]
      have q : ¬ (Sum.inr a : Key) = Sum.inr k := fun e => h (Sum.inr.inj e)
      rw [hp]
      unfold putK at ih ⊢
      simp only [recK, List.map_cons, List.any_cons, decide_eq_false q, Bool.false_or, if_neg q, List.cons_append] at ih ⊢
      exact consIte ih
def ndF (fs : List (Str × V)) : Bool := match fs with
  | [] => true
  | p :: r => (r.all fun q => decide (q.1 ≠ p.1)) && ndF r
theorem ndF_ok : ∀ {fs : List (Str × V)}, ndF fs = true → (fs.map Prod.fst).Nodup
  | [], _ => .nil
  | p :: r, h => by
    obtain ⟨h1, h2⟩ := Bool.and_eq_true_iff.mp (show ((r.all fun q => decide (q.1 ≠ p.1)) && ndF r) = true from h)
    refine List.nodup_cons.mpr ⟨fun hm => ?_, ndF_ok h2⟩
    obtain ⟨q, hq, e⟩ := List.mem_map.mp hm
    exact of_decide_eq_true (List.all_eq_true.mp h1 q hq) e
theorem merge_rec : ∀ (fs : List (Str × V)) (acc : List (Key × V)), (fs.map Prod.fst).Nodup → (∀ p ∈ fs, valV acc (.inr p.1 : Key) = none) → mergeK acc (recK fs) = acc ++ recK fs
  | [], acc, _, _ => by simp [recK, mergeK]
  | (a, x) :: fs, acc, nd, h => by
    have nd2 := List.nodup_cons.mp nd
    have e1 : putK acc (.inr a : Key) x = acc ++ [(.inr a, x)] := by
      unfold putK
      rw [valV_any, h (a, x) (List.mem_cons_self ..)]
      rfl
    show mergeK (putK acc (.inr a : Key) x) (recK fs) = _
    rw [e1, merge_rec fs _ nd2.2 fun p hp => ?_]
    · simp [recK]
    · have q : ¬ (Sum.inr a : Key) = Sum.inr p.1 := fun e => nd2.1 (List.mem_map.mpr ⟨p, hp, (Sum.inr.inj e).symm⟩)
      have h2 := h p (List.mem_cons_of_mem _ hp)
      unfold valV at h2 ⊢
      rw [List.find?_append]
      cases e : acc.find? fun kv => decide (kv.1 = (.inr p.1 : Key)) with
      | none => simp [q]
      | some y => rw [e] at h2; cases h2
def unrec : List (V × V) → List (Str × V)
  | [] => []
  | (.str k, v) :: r => (k, v) :: unrec r
  | _ :: r => unrec r
def dispE (p : Addr) (ps : List (V × V)) (H2 : Hp) (Q : VK) : Prop := H2 p = some (.dK []) ∧ ∃ kvs : List (Key × V), ps = kvs.map (fun kv => (kV kv.1, kv.2)) ∧ kvs.length ≤ 15 ∧ Q (.ref p) (upd H2 p (.dK (mergeK [] kvs)))
theorem n_disp2 {trs : List (TE × TE)} {σ : L2.St} {H : Hp} {Q : VK} (h : ∀ p, H p = none → tPairs trs σ (upd H p (.dK [])) fun ps H2 => dispE p ps H2 Q) : tDisp trs σ H Q := h
theorem n_dispE {p : Addr} {ps : List (V × V)} {H2 : Hp} {Q : VK} {fs : List (Str × V)} (h : H2 p = some (.dK [])) (e : unrec ps = fs) (e2 : ps = fs.map fun q => (.str q.1, q.2)) (hl : fs.length ≤ 15) (nd : ndF fs = true) (q : Q (.ref p) (upd H2 p (.dK (recK fs)))) : dispE p ps H2 Q := by
  refine ⟨h, recK fs, ?_, by unfold recK; rw [List.length_map]; exact hl, ?_⟩
  · rw [e2]
    unfold recK
    rw [List.map_map]
    rfl
  · rw [merge_rec fs [] (ndF_ok nd) fun p _ => rfl]
    exact q
section
variable {σ : L2.St} {H : Hp} {Q : VK} {v : V} {a : Addr} {fs : List (Str × V)} {k : Str}
theorem n_rget (h : H a = some (.dK (recK fs))) (e : fs.lookup k = some v) (q : Q v H) : dgetK (.ref a) (.str k) H Q := n_dgetS h (by rw [valV_rec]; exact e) q
theorem n_rput {R : Hp → Prop} (h : H a = some (.dK (recK fs))) (hz : fs.length < 1000) (nd : ndF fs = true) (q : R (upd H a (.dK (recK (putF k v fs))))) : dputK (.ref a) (.str k) v H R :=
  n_dputS h (by unfold recK; rw [List.length_map]; omega) (by rw [putK_rec_aux _ _ _ (ndF_ok nd)]; exact q)
end
/-! ### loops, comprehensions -/
section
variable {K : PySem.W.Frag} {σ : L2.St} {H : Hp} {Q : VK} {D : Ends} {ta tv te tl : TE} {as_ : TA} {i j : Int} {v z x : V} {g : TG} {tb : TS} {wi : TI} {tt : TT} {R : It → Hp → Prop} {a : Addr} {xs : List V}
def forK (J : It) (g : TG) (tb : TS) (D : Ends) (σ : L2.St) (H1 : Hp) : Prop := ∃ W : Nat → Nat → L2.St → Hp → Prop, (∃ m, W 0 m σ H1) ∧ ∀ i m σ H, W i m σ H →
  (J.stop i H ∧ D.nx σ H) ∨ (J.go i H ∧ ∃ N : L2.St → Hp → Prop, (∀ σ' H', N σ' H' → ∃ m', m' < m ∧ W (i + 1) m' σ' H') ∧ ∀ x H', J.yld i H x H' → g x σ H' fun σ2 H2 => tb { D with nx := N, ct := N, bk := D.nx } σ2 H2)
theorem n_for (h : wi σ H fun J H1 => forK J g tb D σ H1) : tFor wi g tb D σ H := h
def itLK (K : PySem.W.Frag) (x : V) (H : Hp) (R : It → Hp → Prop) : Prop := ∃ a, x = .ref a ∧ (∃ xs, SqL K H a xs) ∧ R (Itl K a) H
theorem n_iL (h : tl σ H fun x H1 => itLK K x H1 R) : iList K tl σ H R := h
theorem n_itLK (h : SqL K H a xs) (q : R (Itl K a) H) : itLK K (.ref a) H R := ⟨a, rfl, ⟨xs, h⟩, q⟩
def itTK (K : PySem.W.Frag) (x : V) (H : Hp) (R : It → Hp → Prop) : Prop := ∃ a, x = .ref a ∧ (∃ xs, SqT K H a xs) ∧ R (Itt K a) H
theorem n_iT (h : tl σ H fun x H1 => itTK K x H1 R) : iTup K tl σ H R := h
theorem n_itTK (h : SqT K H a xs) (q : R (Itt K a) H) : itTK K (.ref a) H R := ⟨a, rfl, ⟨xs, h⟩, q⟩
def itRK (vs : List V) (H : Hp) (R : It → Hp → Prop) : Prop := ∃ j : Int, vs = [.int j] ∧ -(2 ^ 62) ≤ j ∧ j < 2 ^ 62 ∧ R (Itr 0 j.toNat) H
theorem n_iR1 (h : as_ σ H fun vs H1 => itRK vs H1 R) : iRng1 as_ σ H R := h
theorem n_itRK (h : -(2 ^ 62) ≤ j ∧ j < 2 ^ 62) (q : R (Itr 0 j.toNat) H) : itRK [.int j] H R := ⟨j, rfl, h.1, h.2, q⟩
def lcK (J : It) (g : TG) (tt : TT) (te : TE) (vs : List Nat) (σ : L2.St) (H1 : Hp) (Q : VK) : Prop := ∀ D, H1 D = none → ∃ W : Nat → Nat → Hp → Prop, (∃ m, W 0 m (upd H1 D (.lst []))) ∧ ∀ i m H, W i m H →
  (J.stop i H ∧ Q (.ref D) H) ∨ (J.go i H ∧ ∃ Nx : Hp → Prop, (∀ H', Nx H' → ∃ m', m' < m ∧ W (i + 1) m' H') ∧ ∀ x H', J.yld i H x H' → g x (wipe σ vs) H' fun σ2 H2 => wipe σ2 vs = wipe σ vs ∧ tt σ2 H2 fun b H3 =>
    if b = true then te σ2 H3 fun y H4 => ∃ acc, H4 D = some (.lst acc) ∧ acc.length < sizeLine ∧ Nx (upd H4 D (.lst (acc ++ [y]))) else Nx H3)
theorem n_lc {vs : List Nat} (h : wi σ H fun J H1 => lcK J g tt te vs σ H1 Q) : tLc wi g tt te vs σ H Q := h
theorem n_yes {R : Bool → Hp → Prop} (q : R true H) : tYes σ H R := q
theorem n_iteB {c : Bool} {A B : Prop} (h1 : c = true → A) (h0 : c = false → B) : if c = true then A else B := by
  cases c with
  | true => exact h1 rfl
  | false => exact h0 rfl
theorem n_iteD {p : Prop} [Decidable p] {A B : Prop} (h1 : p → A) (h0 : ¬ p → B) : if decide p = true then A else B := n_iteB (fun h => h1 (of_decide_eq_true h)) (fun h => h0 (of_decide_eq_false h))
theorem n_iteN {c : Bool} {A B : Prop} (h1 : c = false → A) (h0 : c = true → B) : if (!c) = true then A else B := by
  cases c with
  | true => exact h0 rfl
  | false => exact h1 rfl
theorem n_iteND {p : Prop} [Decidable p] {A B : Prop} (h1 : ¬ p → A) (h0 : p → B) : if (!decide p) = true then A else B := n_iteN (fun h => h1 (of_decide_eq_false h)) (fun h => h0 (of_decide_eq_true h))
end
/-! ### arithmetic -/
theorem div_ok {j : Int} (h : 0 < j) (hb : j < 2 ^ 100) {i : Int} : CDivW i j := wide_div (b := 100) h (by omega) (by decide) (by decide)
theorem mul_ok {i j : Int} {a b : Nat} (ha : i.natAbs < 2 ^ a) (hb : j.natAbs < 2 ^ b) (h0 : 0 < a) (h1 : 0 < b) (h : a + b ≤ 1000000) : CMulW i j := wide_mul ha hb h0 h1 h
end LM

namespace LM
open PySem PySem.Spec PyProof.Rows L2
section
variable {K : PySem.W.Frag} {H : Hp} {Q : VK} {σ : L2.St} {te ta tb : TE}
/-! ### lists of whole numbers between bounds -/
def BndL (lo hi : Int) : List V → Prop
  | [] => True
  | .int z :: r => (lo ≤ z ∧ z ≤ hi) ∧ BndL lo hi r
  | _ => False
theorem bnd_nil {lo hi : Int} : BndL lo hi [] ↔ True := Iff.rfl
theorem bnd_cons {lo hi z : Int} {r : List V} : BndL lo hi (.int z :: r) ↔ (lo ≤ z ∧ z ≤ hi) ∧ BndL lo hi r := Iff.rfl
theorem bnd_get {lo hi : Int} : ∀ {xs : List V} {j : Nat} {x : V}, BndL lo hi xs → xs[j]? = some x → ∃ z, x = .int z ∧ lo ≤ z ∧ z ≤ hi
  | .int z :: r, 0, x, b, h => ⟨z, (Option.some.inj h).symm, b.1.1, b.1.2⟩
  | .int z :: r, j + 1, x, b, h => bnd_get (xs := r) b.2 (by simpa using h)
theorem atI_lt {α : Type} {xs : List α} {i : Int} (h0 : 0 ≤ i) (h1 : i < xs.length) : ∃ x, atI xs i = some x ∧ xs[i.toNat]? = some x := by
  have hj : i.toNat < xs.length := by omega
  refine ⟨xs[i.toNat], ?_, List.getElem?_eq_getElem hj⟩
  have := atI_nat (List.getElem?_eq_getElem hj)
  rwa [Int.toNat_of_nonneg h0] at this
theorem n_ixB (lo hi : Int) {p : Addr} {xs : List V} {i : Int} (h : SqL K H p xs) (b : BndL lo hi xs) (h0 : 0 ≤ i) (h1 : i < xs.length) (q : ∀ z, lo ≤ z → z ≤ hi → Q (.int z) H) : rIxL K (.ref p) (.int i) H Q := by
  obtain ⟨x, e1, e2⟩ := atI_lt h0 h1
  obtain ⟨z, rfl, z0, z1⟩ := bnd_get b e2
  exact n_ixL h e1 (q z z0 z1)
theorem n_cat {l b : Addr} {xs zs : List V} (h : H l = some (.lst xs)) (h' : H b = some (.lst zs)) (hz : xs.length + zs.length ≤ 100000) (q : ∀ p, H p = none → Q (.ref p) (upd H p (.lst (xs ++ zs)))) : rCat (.ref l) (.ref b) H Q := ⟨l, b, xs, zs, rfl, rfl, h, h', sz_ok hz, q⟩
theorem n_len1 {vs : List V} {n : Nat} {R : Prop} (h : vs.length = n) (q : R) : vs.length = n ∧ R := ⟨h, q⟩
theorem n_ret1 {n : Int} {R : Int → Prop} (h0 : 0 ≤ n) (h1 : n < 2 ^ 63) (q : R n) : ∃ m : Int, V.int n = .int m ∧ 0 ≤ m ∧ m < 2 ^ 63 ∧ R m := ⟨n, rfl, h0, h1, q⟩
theorem n_gUnl {a : Addr} {xs : List V} {n : Nat} {t : TGs} {R : L2.St → Hp → Prop} (h : SqL K H a xs) (l : xs.length = n) (q : t xs σ H R) : gUnl K n t (.ref a) σ H R := ⟨a, xs, rfl, h, l, q⟩
theorem n_iteI {i j : Int} {A B : Prop} (h1 : i = j → A) (h0 : i ≠ j → B) : if decide (V.int i = V.int j) = true then A else B := n_iteD (fun h => h1 (V.int.inj h)) (fun h => h0 fun z => h (congrArg V.int z))
theorem n_iteNI {i j : Int} {A B : Prop} (h1 : i ≠ j → A) (h0 : i = j → B) : if (!decide (V.int i = V.int j)) = true then A else B := n_iteND (fun h => h1 fun z => h (congrArg V.int z)) (fun h => h0 (V.int.inj h))
theorem n_powN {i j r : Int} (c : CPow i j) (e : i ^ j.toNat = r) (q : Q (.int r) H) : rI CPow (fun i j => .int (i ^ j.toNat)) (.int i) (.int j) H Q := ⟨i, j, rfl, rfl, c, by subst e; exact q⟩
theorem n_chain {r r' : R2} {tc : TE} (h : ta σ H fun x H1 => tb σ H1 fun y H2 => r x y H2 fun z H3 => bfK z H3 (fun H4 => tc σ H4 fun w' H5 => r' y w' H5 Q) fun H4 => Q (.bl false) H4) : tChain r r' ta tb tc σ H Q := h
def zip3K (K : PySem.W.Frag) (ta tb tc : Bool) (vs : List V) (H : Hp) (R : It → Hp → Prop) : Prop := ∃ a b c xs ys zs, vs = [.ref a, .ref b, .ref c] ∧ SqK K ta H a xs ∧ SqK K tb H b ys ∧ SqK K tc H c zs ∧ R (Itz3 K ta tb tc a b c) H
theorem n_iz3 {ta tb tc : Bool} {as_ : TA} {R : It → Hp → Prop} (h : as_ σ H fun vs H1 => zip3K K ta tb tc vs H1 R) : iZip3 K ta tb tc as_ σ H R := h
theorem n_zip3K {ta tb tc : Bool} {a b c : Addr} {xs ys zs : List V} {R : It → Hp → Prop} (h1 : SqK K ta H a xs) (h2 : SqK K tb H b ys) (h3 : SqK K tc H c zs) (q : R (Itz3 K ta tb tc a b c) H) : zip3K K ta tb tc [.ref a, .ref b, .ref c] H R := ⟨a, b, c, xs, ys, zs, rfl, h1, h2, h3, q⟩
theorem sqk_l {a : Addr} {xs : List V} (h : SqL K H a xs) : SqK K false H a xs := h
theorem sqk_t {a : Addr} {xs : List V} (h : SqT K H a xs) : SqK K true H a xs := h
/-! ### len, bool of own classes -/
theorem n_lenO {C a dx : Addr} {sp : Sp} {E : XK} {fs : List (Str × V)} (h : H a = some (.ins C dx fs)) (q : sp [.ref a] H (fun v H' => ∃ n : Int, v = .int n ∧ 0 ≤ n ∧ n < 2 ^ 63 ∧ Q (.int n) H') E) : rLenO C sp E [.ref a] H Q := ⟨a, dx, fs, rfl, h, q⟩
theorem n_boolO {C a dx : Addr} {sp : Sp} {E : XK} {fs : List (Str × V)} (h : H a = some (.ins C dx fs)) (q : sp [.ref a] H (fun v H' => ∃ n : Int, v = .int n ∧ 0 ≤ n ∧ n < 2 ^ 63 ∧ Q (.bl (n != 0)) H') E) : rBoolO C sp E [.ref a] H Q := ⟨a, dx, fs, rfl, h, q⟩
end
end LM

namespace LM
open PySem PySem.Spec PyProof.Rows L2
theorem n_isB {a b : Bool} {H : Hp} {Q : VK} (q : Q (.bl (decide (a = b))) H) : rIsB (.bl a) (.bl b) H Q := ⟨a, b, rfl, rfl, q⟩
theorem n_isNB {a b : Bool} {H : Hp} {Q : VK} (q : Q (.bl (!decide (a = b))) H) : rNotB (.bl a) (.bl b) H Q := ⟨a, b, rfl, rfl, q⟩
theorem n_wipe {σ2 σ : L2.St} {vs : List Nat} {R : Prop} (h : wipe σ2 vs = wipe σ vs) (q : R) : wipe σ2 vs = wipe σ vs ∧ R := ⟨h, q⟩
theorem n_acc {D : Addr} {acc : List V} {H : Hp} {R : List V → Prop} (h : H D = some (.lst acc)) (l : acc.length < 100000) (q : R acc) : ∃ acc, H D = some (.lst acc) ∧ acc.length < sizeLine ∧ R acc := ⟨acc, h, sz_lt l, q⟩
/-! ### rules inside a comprehension's block: the fragment said by name -/
section
variable {X : Cx}
theorem k_ix_list (K : PySem.W.Frag) (h : X.K = K) : IxR X (rIxL K) := by subst h; exact ix_list
theorem k_ix_tup (K : PySem.W.Frag) (h : X.K = K) : IxR X (rIxT K) := by subst h; exact ix_tup
theorem k_pe_fld {e : Expr} {f : Str} {ta : TE} {pos : Pos} (K : PySem.W.Frag) (h : X.K = K) (he : PE X e ta) (hb : attributeBase e f X.env (eval e X.env) = eval e X.env) : PE X (.Attribute e f pos) (tFld K ta f) := by subst h; exact pe_fld he hb
theorem k_op_eqD (K : PySem.W.Frag) (h : X.K = K) (hu : X.A.units + 64 < cLine) : OpR X (compareOp .Eq) (rEqD K) := by subst h; exact op_eqD hu
theorem k_op_neD (K : PySem.W.Frag) (h : X.K = K) (hu : X.A.units + 64 < cLine) : OpR X (compareOp .NotEq) (rNeD K) := by subst h; exact op_neD hu
theorem k_call_isi (K : PySem.W.Frag) (h : X.K = K) : CallR X (.builtin "isinstance") (rIsi K) := by subst h; exact call_isi
theorem k_pg_tup {es : List Expr} {k : Nat} {t : TGs} {n : Nat} {pos : Pos} (K : PySem.W.Frag) (h : X.K = K) (hc : X.calm = true) (hp : PGs X es t)
    (hn : (assignEach es X.env).length = n := by rfl) (hst : (assignEach es X.env).findIdx? (·.1) = none := by rfl) : PG X (.Tuple es k pos) (gTup K n t) := by subst h; exact pg_tup hc hp hn hst
theorem k_sl_list (K : PySem.W.Frag) (h : X.K = K) : SlR X (rSlL K) := by subst h; exact sl_list
theorem k_sl_tupA (K : PySem.W.Frag) (h : X.K = K) : SlR X (rSlA K) := by subst h; exact sl_tupA
theorem k_op_in_seq (K : PySem.W.Frag) (h : X.K = K) : OpR X (compareOp .In) (rIn K false) := by subst h; exact op_in_seq
theorem k_op_notIn_seq (K : PySem.W.Frag) (h : X.K = K) : OpR X (compareOp .NotIn) (rIn K true) := by subst h; exact op_notIn_seq
theorem k_op_catA (K : PySem.W.Frag) (h : X.K = K) : OpR X (binaryOp .Add) (rCatA K) := by subst h; exact op_catA
theorem k_cb_len (K : PySem.W.Frag) (h : X.K = K) : CallR X (.builtin "len") (lenK K) := by subst h; exact cb_len
theorem k_cb_list (K : PySem.W.Frag) (h : X.K = K) : CallR X (.type "list") (listK K) := by subst h; exact cb_list
theorem k_cb_tuple (K : PySem.W.Frag) (h : X.K = K) : CallR X (.type "tuple") (rTupleOf K) := by subst h; exact cb_tuple
theorem k_pe_revL {e : Expr} {te : TE} {k : Nat} {p1 p2 p3 pos : Pos} (K : PySem.W.Frag) (h : X.K = K) (he : PE X e te) : PE X (.Subscript e (.Slice none none (some (.UnaryOp .USub (.Constant (.int 1) k p1) p2)) p3) pos) (tRevL K te) := by subst h; exact pe_revL he
end
end LM

namespace LM
open PySem PySem.Spec PyProof.Rows L2
local macro_rules | `(tactic| tm_at "ar") => `(tactic| first | omega | decide | assumption | (simp; omega) | (simp; done))
local macro_rules | `(tactic| tm_at "hp") => `(tactic| first
  | with_reducible assumption
  | with_reducible exact upd_same
  | ((with_reducible refine' look_new ?hl ?hf); (case hf => with_reducible assumption); (case hl => tm_at "hp"))
  | ((with_reducible refine' look_ne ?hn ?hl); (case hn => tm_at "ne"); (case hl => tm_at "hp"))
  | ((with_reducible refine' look_keep ?hk ?hl ?hn); (case hk => with_reducible assumption); (case hl => tm_at "hp"); (case hn => tm_at "nm")))
local macro_rules | `(tactic| tm_at "hq") => `(tactic| ((refine' look_as ?hh ?he); (case hh => tm_at "hp"); (case he => exact rfl)))
local macro_rules | `(tactic| tm_at "nm") => `(tactic| first
  | assumption
  | exact nm0
  | (refine' nm1 ?_; tm_at "ne")
  | (refine' nm2 ?_ ?_ <;> tm_at "ne")
  | (refine' nm3 ?_ ?_ ?_ <;> tm_at "ne"))
local macro_rules | `(tactic| tm_at "ne") => `(tactic| first
  | assumption
  | (symm; assumption)
  | ((refine' ne_of_none ?hh ?hn); (case hn => with_reducible assumption); (case hh => tm_at "hp"))
  | (symm; (refine' ne_of_none ?hh ?hn); (case hn => with_reducible assumption); (case hh => tm_at "hp"))
  | exact ne_of (by assumption) (by assumption) (by intro q; cases q))
local macro_rules | `(tactic| tm_at "sq") => `(tactic| first
  | with_reducible assumption
  | ((with_reducible refine' SqL.of ?hl); (case hl => tm_at "hp"))
  | ((with_reducible refine' SqT.of ?hl); (case hl => tm_at "hp"))
  | ((with_reducible refine' sqL_new ?hl ?hf); (case hf => with_reducible assumption); (case hl => tm_at "sq"))
  | ((with_reducible refine' sqT_new ?hl ?hf); (case hf => with_reducible assumption); (case hl => tm_at "sq"))
  | ((with_reducible refine' sqL_keep ?hk ?hl ?hn); (case hk => with_reducible assumption); (case hl => tm_at "sq"); (case hn => tm_at "nm"))
  | ((with_reducible refine' sqT_keep ?hk ?hl ?hn); (case hk => with_reducible assumption); (case hl => tm_at "sq"); (case hn => tm_at "nm")))
local macro_rules | `(tactic| tm_at "sk") => `(tactic| first
  | ((with_reducible refine' sqk_l ?hs); (case hs => tm_at "sq"))
  | ((with_reducible refine' sqk_t ?hs); (case hs => tm_at "sq")))
local macro_rules | `(tactic| tm_at "kp") => `(tactic| first
  | exact KeepBut.refl
  | with_reducible assumption
  | ((with_reducible refine' KeepBut.newT ?hk ?hf); (case hf => with_reducible assumption); (case hk => tm_at "kp"))
  | ((with_reducible refine' KeepBut.mutT ?hk ?hf); (case hf => (simp; done)); (case hk => tm_at "kp"))
  | ((with_reducible refine' KeepBut.mutF ?hk ?hf); (case hf => tm_at "fr"); (case hk => tm_at "kp"))
  | ((with_reducible refine' KeepBut.callT ?hc ?hk ?hs); (case hc => with_reducible assumption); (case hs => (simp; done)); (case hk => tm_at "kp")))
local macro_rules | `(tactic| tm_at "fr") => `(tactic| first
  | with_reducible assumption
  | exact free_new (by assumption)
  | exact free_new (free_new (by assumption))
  | exact free_new (free_new (free_new (by assumption))))
local macro_rules | `(tactic| tm_at "n1") => `(tactic| first
  | with_reducible refine' n_seq ?_
  | with_reducible refine' (fun p (np : _ = none) => ?_)
  | with_reducible refine' n_asg ?_
  | ((with_reducible refine' n_name ?_); (try dsimp only [List.set]))
  | ((with_reducible refine' n_var ?hv ?_); (case hv => exact rfl))
  | with_reducible refine' n_c ?_
  | with_reducible refine' n_op ?_
  | with_reducible refine' n_I0 ?_
  | with_reducible refine' n_cons ?_
  | with_reducible refine' n_nil ?_
  | with_reducible refine' n_CB ?_
  | with_reducible refine' n_ret ?_
  | with_reducible refine' n_retN ?_
  | with_reducible refine' n_drop ?_
  | with_reducible refine' n_next ?_
  | with_reducible refine' n_ifS ?_
  | with_reducible refine' n_if ?_
  | with_reducible refine' n_test ?_
  | with_reducible refine' n_tB ?_
  | with_reducible refine' n_blK ?_
  | with_reducible refine' n_bfK ?_
  | with_reducible refine' n_and ?_
  | with_reducible refine' n_or ?_
  | with_reducible refine' n_not ?_
  | with_reducible refine' n_andV ?_
  | with_reducible refine' n_orV ?_
  | with_reducible refine' n_notV ?_
  | with_reducible refine' n_un ?_
  | with_reducible refine' n_U ?_
  | with_reducible refine' n_call ?_
  | with_reducible refine' n_meth ?_
  | with_reducible refine' n_callN ?_
  | with_reducible refine' n_methN ?_
  | with_reducible refine' n_make ?_
  | with_reducible refine' n_makeN ?_
  | with_reducible refine' n_fld ?_
  | with_reducible refine' n_sfld ?_
  | with_reducible refine' n_tup ?_
  | with_reducible refine' n_lst ?_
  | with_reducible refine' n_BM ?_
  | with_reducible refine' n_BM0 ?_
  | with_reducible refine' n_dget ?_
  | with_reducible refine' n_dput ?_
  | with_reducible refine' n_din ?_
  | with_reducible refine' n_dnin ?_
  | with_reducible refine' n_revL ?_
  | with_reducible refine' n_sl ?_
  | with_reducible refine' n_part ?_
  | with_reducible refine' n_partK ?_
  | with_reducible refine' n_noPart ?_
  | with_reducible refine' n_disp2 ?_
  | ((with_reducible refine' n_dispE ?hh ?he ?h2 ?hl ?hn ?_); (case hh => tm_at "hp"); (case he => (simp only [unrec]; exact rfl)); (case h2 => exact rfl); (case hl => exact of_decide_eq_true rfl); (case hn => exact rfl))
  | with_reducible refine' n_pNil ?_
  | with_reducible refine' n_pCons ?_
  | with_reducible refine' n_sub ?_
  | with_reducible refine' n_for ?_
  | with_reducible refine' n_iL ?_
  | with_reducible refine' n_iT ?_
  | with_reducible refine' n_iR1 ?_
  | with_reducible refine' n_lc ?_
  | with_reducible refine' n_yes ?_
  | ((with_reducible refine' n_wipe ?hl ?_); (case hl => exact rfl))
  | with_reducible refine' n_isB ?_
  | with_reducible refine' n_isNB ?_
  | with_reducible refine' n_iz3 ?_
  | ((with_reducible refine' n_zip3K ?h1 ?h2 ?h3 ?_); (case h1 => tm_at "sk"); (case h2 => tm_at "sk"); (case h3 => tm_at "sk"))
  | with_reducible refine' n_chain ?_
  | ((with_reducible refine' n_setL ?hh ?he ?_); (case hh => tm_at "hp"); (case he => exact rfl))
  | with_reducible refine' n_gCons ?_
  | with_reducible refine' n_gNil ?_
  | ((with_reducible refine' n_mod ?hc ?_); (case hc => tm_at "ar"))
  | ((with_reducible refine' n_powN ?hc ?he ?_); (case hc => exact ⟨by decide, by decide, by decide⟩); (case he => (simp only [Int.reduceToNat, Int.reducePow]; exact rfl)))
  | ((with_reducible refine' n_eq ?hc ?_); (case hc => exact rfl))
  | ((with_reducible refine' n_ne ?hc ?_); (case hc => exact rfl))
  | ((with_reducible refine' n_mkT ?hc ?_); (case hc => exact of_decide_eq_true rfl))
  | ((with_reducible refine' n_mkL ?hc ?_); (case hc => exact of_decide_eq_true rfl))
  | ((with_reducible refine' n_methK ?hh ?hl ?_); (case hh => tm_at "hp"); (case hl => exact rfl))
  | ((with_reducible refine' n_rget ?hh ?hl ?_); (case hh => tm_at "hp"); (case hl => exact rfl))
  | ((with_reducible refine' n_rput ?hh ?hl ?hn ?_); (case hh => tm_at "hp"); (case hl => exact of_decide_eq_true rfl); (case hn => exact rfl))
  | ((with_reducible refine' n_dgetS ?hh ?hl ?_); (case hh => tm_at "hp"); (case hl => exact rfl))
  | ((with_reducible refine' n_dputS ?hh ?hl ?_); (case hh => tm_at "hp"); (case hl => exact of_decide_eq_true rfl))
  | ((with_reducible refine' n_tyL ?hh ?_); (case hh => tm_at "hp"))
  | ((with_reducible refine' n_append ?hh ?hl ?_); (case hh => tm_at "hp"); (case hl => tm_at "ar"))
  | ((with_reducible refine' n_gTup ?hh ?hl ?_); (case hh => tm_at "sq"); (case hl => exact rfl))
  | ((with_reducible refine' n_ixT ?hh ?hl ?_); (case hh => tm_at "sq"); (case hl => exact rfl))
  | ((with_reducible refine' n_ixL ?hh ?hl ?_); (case hh => tm_at "sq"); (case hl => exact rfl)))
local macro_rules | `(tactic| tm_at "n2") => `(tactic| first
  | ((with_reducible refine' n_fldK ?hh ?hc ?hn ?hl ?_); (case hh => tm_at "hp"); (case hc => tm_at "cls"); (case hn => tm_at "noat"); (case hl => exact rfl))
  | ((with_reducible refine' n_sfldK ?hh ?hc ?hn ?hl ?_); (case hh => tm_at "hp"); (case hc => tm_at "cls"); (case hn => tm_at "noat"); (case hl => exact of_decide_eq_true rfl))
  | (with_reducible refine' n_fldaug ?_)
  | ((with_reducible refine' n_augK ?hh ?hc ?hn ?hl ?_); (case hh => tm_at "hp"); (case hc => tm_at "cls"); (case hn => tm_at "noat"); (case hl => exact rfl))
  | ((with_reducible refine' n_augE ?hh ?hl ?_); (case hh => tm_at "hp"); (case hl => exact of_decide_eq_true rfl))
  | (with_reducible refine' n_rAdd ?_)
  | (with_reducible refine' n_rSub ?_)
  | ((with_reducible refine' n_popI ?hh ?_); (case hh => tm_at "hp"))
  | (with_reducible refine' n_max2 ?_)
  | (with_reducible refine' n_min2 ?_)
  | (with_reducible refine' n_abs1 ?_)
  | (with_reducible refine' n_intI ?_)
  | (with_reducible refine' n_intB ?_)
  | (with_reducible refine' isi_int_int ?_)
  | (with_reducible refine' isi_int_bool ?_)
  | (with_reducible refine' n_isN ?_)
  | (with_reducible refine' n_notN ?_)
  | ((with_reducible refine' n_neNil ?hh ?hk ?_); (case hh => tm_at "sq"); (case hk => tm_at "sq"))
  | ((with_reducible refine' n_mulI ?hc ?_); (case hc => (first | exact mulL (by omega) (by omega) | exact mulR (by omega) (by omega))))
  | ((with_reducible refine' n_div ?hc ?_); (case hc => exact div_ok (by omega) (by omega)))
  | ((with_reducible refine' n_lenL ?hh ?_); (case hh => tm_at "sq"))
  | ((with_reducible refine' n_lenT ?hh ?_); (case hh => tm_at "sq"))
  | ((with_reducible refine' n_listL ?hh ?_); (case hh => tm_at "sq"))
  | ((with_reducible refine' n_revK ?hh ?_); (case hh => tm_at "sq"))
  | ((with_reducible refine' n_slL ?hh ?_); (case hh => tm_at "sq"))
  | ((with_reducible refine' n_tyLK ?hh ?_); (case hh => tm_at "sq"))
  | ((with_reducible refine' n_itLK ?hh ?_); (case hh => tm_at "sq"))
  | ((with_reducible refine' n_itTK ?hh ?_); (case hh => tm_at "sq"))
  | ((with_reducible refine' n_itRK ?hh ?_); (case hh => omega))
  | ((with_reducible refine' n_cat ?hh ?hk ?hl ?_); (case hh => tm_at "hp"); (case hk => tm_at "hp"); (case hl => exact of_decide_eq_true rfl))
  | ((with_reducible refine' n_lenO ?hh ?_); (case hh => tm_at "hp"))
  | ((with_reducible refine' n_boolO ?hh ?_); (case hh => tm_at "hp"))
  | ((with_reducible refine' n_len1 ?hl ?_); (case hl => exact rfl))
  | ((with_reducible refine' n_ret1 ?hl ?hk ?_); (case hl => omega); (case hk => omega))
  | ((with_reducible refine' n_gUnl ?hh ?hl ?_); (case hh => tm_at "sq"); (case hl => exact rfl))
  | (with_reducible refine' n_rng1 ?_)
  | (with_reducible refine' n_rng2 ?_))
local macro_rules | `(tactic| tm_at "n") => `(tactic| repeat (first | tm_at "n1" | tm_at "n2"))
local macro_rules | `(tactic| tm_at "br") => `(tactic| first
  | ((with_reducible refine' n_iteT ?hc ?_); (case hc => exact rfl))
  | ((with_reducible refine' n_iteF ?hc ?_); (case hc => exact rfl))
  | ((with_reducible refine' n_iteT ?hc ?_); (case hc => (simp; done)))
  | ((with_reducible refine' n_iteF ?hc ?_); (case hc => (simp; done)))
  | ((with_reducible refine' n_iteT ?hc ?_); (case hc => (simp; omega)))
  | ((with_reducible refine' n_iteF ?hc ?_); (case hc => (simp; omega))))
local macro_rules | `(tactic| tm_at "N") => `(tactic| repeat (first | tm_at "n1" | tm_at "n2" | tm_at "br"))

def topS (i : Nat) : Stmt := PySem.Challenge.pw_littlemasters_k20_stones_that_wear.main.body.getD i (.Pass ⟨0, 0, 0, 0⟩)
abbrev s_Stone_init : Stmt := inClass (topS 1) 0
abbrev s_Stone_left : Stmt := inClass (topS 1) 1
abbrev s_Stone_len : Stmt := inClass (topS 1) 2
abbrev s_Stone_ground : Stmt := inClass (topS 1) 3
abbrev s_L_deck : Stmt := topS 3
abbrev s_L_draw : Stmt := topS 4
abbrev s_L_whole : Stmt := topS 5
abbrev s_L_stone : Stmt := topS 6
abbrev s_L_ground : Stmt := topS 7
abbrev s_L_stands : Stmt := topS 8
abbrev s_L_deed : Stmt := topS 9
abbrev s_L_done : Stmt := topS 10
abbrev s_law : Stmt := topS 11
/-! ### facts of the text -/
def d_Stone_init : He.DefD := ⟨("Stone", some "__init__"), "__init__", "Stone.__init__", defArgs s_Stone_init, defBody s_Stone_init, defScope s_Stone_init, [.int 0], []⟩
def d_Stone_left : He.DefD := ⟨("Stone", some "left"), "left", "Stone.left", defArgs s_Stone_left, defBody s_Stone_left, defScope s_Stone_left, [], []⟩
def d_Stone_len : He.DefD := ⟨("Stone", some "__len__"), "__len__", "Stone.__len__", defArgs s_Stone_len, defBody s_Stone_len, defScope s_Stone_len, [], []⟩
def d_Stone_ground : He.DefD := ⟨("Stone", some "ground"), "ground", "Stone.ground", defArgs s_Stone_ground, defBody s_Stone_ground, defScope s_Stone_ground, [.int 1], []⟩
def d_L_deck : He.DefD := ⟨("_law_deck", none), "_law_deck", "_law_deck", defArgs s_L_deck, defBody s_L_deck, defScope s_L_deck, [], []⟩
def d_L_draw : He.DefD := ⟨("_law_draw", none), "_law_draw", "_law_draw", defArgs s_L_draw, defBody s_L_draw, defScope s_L_draw, [], []⟩
def d_L_whole : He.DefD := ⟨("_law_whole", none), "_law_whole", "_law_whole", defArgs s_L_whole, defBody s_L_whole, defScope s_L_whole, [], []⟩
def d_L_stone : He.DefD := ⟨("_law_stone", none), "_law_stone", "_law_stone", defArgs s_L_stone, defBody s_L_stone, defScope s_L_stone, [], []⟩
def d_L_ground : He.DefD := ⟨("_law_ground", none), "_law_ground", "_law_ground", defArgs s_L_ground, defBody s_L_ground, defScope s_L_ground, [], []⟩
def d_L_stands : He.DefD := ⟨("_law_stands", none), "_law_stands", "_law_stands", defArgs s_L_stands, defBody s_L_stands, defScope s_L_stands, [], []⟩
def d_L_deed : He.DefD := ⟨("_law_deed", none), "_law_deed", "_law_deed", defArgs s_L_deed, defBody s_L_deed, defScope s_L_deed, [], []⟩
def d_L_done : He.DefD := ⟨("_law_done", none), "_law_done", "_law_done", defArgs s_L_done, defBody s_L_done, defScope s_L_done, [], []⟩
def d_law : He.DefD := ⟨("law", none), "law", "law", defArgs s_law, defBody s_law, defScope s_law, [], []⟩
def fn : List He.DefD := [d_Stone_init, d_Stone_left, d_Stone_len, d_Stone_ground, d_L_deck, d_L_draw, d_L_whole, d_L_stone, d_L_ground, d_L_stands, d_L_deed, d_L_done, d_law]
def fa : List He.Fa := [.glo "Stone", .glo "_law_deck", .glo "_law_deed", .glo "_law_done", .glo "_law_draw", .glo "_law_ground", .glo "_law_stands", .glo "_law_stone", .glo "_law_whole", .glo "law", .free "bool", .free "int", .free "isinstance", .free "len", .free "list", .free "max", .free "min", .free "range", .free "zip", .cls "Stone", .mkr "Stone", .meth "Stone" "__len__", .meth "Stone" "ground", .meth "Stone" "left", .noat "Stone" "size_left", .noat "Stone" "least_size", .noat "Stone" "__bool__"]
/-- what the top has written -/
structure Tx (K : PySem.W.Frag) (mg : Str → Option Value) : Prop where
  c : He.SaysD fa fn K
  h : ∃ h : Heap, K.In h ∧ h.Ns mainGlobals mg
section
variable {K : PySem.W.Frag} {mg : Str → Option Value}
theorem Tx.g_Stone (T : Tx K mg) : mg "Stone" = some (.ref (He.ga K "Stone")) := by
  obtain ⟨h, X, G⟩ := T.h
  exact He.glo_ok X G (T.c.fact 0 rfl)
theorem Tx.g__law_deck (T : Tx K mg) : mg "_law_deck" = some (.ref (He.fAd K ("_law_deck", none))) := by
  obtain ⟨h, X, G⟩ := T.h
  exact He.glo_ok X G (T.c.fact 1 rfl)
theorem Tx.g__law_deed (T : Tx K mg) : mg "_law_deed" = some (.ref (He.fAd K ("_law_deed", none))) := by
  obtain ⟨h, X, G⟩ := T.h
  exact He.glo_ok X G (T.c.fact 2 rfl)
theorem Tx.g__law_done (T : Tx K mg) : mg "_law_done" = some (.ref (He.fAd K ("_law_done", none))) := by
  obtain ⟨h, X, G⟩ := T.h
  exact He.glo_ok X G (T.c.fact 3 rfl)
theorem Tx.g__law_draw (T : Tx K mg) : mg "_law_draw" = some (.ref (He.fAd K ("_law_draw", none))) := by
  obtain ⟨h, X, G⟩ := T.h
  exact He.glo_ok X G (T.c.fact 4 rfl)
theorem Tx.g__law_ground (T : Tx K mg) : mg "_law_ground" = some (.ref (He.fAd K ("_law_ground", none))) := by
  obtain ⟨h, X, G⟩ := T.h
  exact He.glo_ok X G (T.c.fact 5 rfl)
theorem Tx.g__law_stands (T : Tx K mg) : mg "_law_stands" = some (.ref (He.fAd K ("_law_stands", none))) := by
  obtain ⟨h, X, G⟩ := T.h
  exact He.glo_ok X G (T.c.fact 6 rfl)
theorem Tx.g__law_stone (T : Tx K mg) : mg "_law_stone" = some (.ref (He.fAd K ("_law_stone", none))) := by
  obtain ⟨h, X, G⟩ := T.h
  exact He.glo_ok X G (T.c.fact 7 rfl)
theorem Tx.g__law_whole (T : Tx K mg) : mg "_law_whole" = some (.ref (He.fAd K ("_law_whole", none))) := by
  obtain ⟨h, X, G⟩ := T.h
  exact He.glo_ok X G (T.c.fact 8 rfl)
theorem Tx.g_law (T : Tx K mg) : mg "law" = some (.ref (He.fAd K ("law", none))) := by
  obtain ⟨h, X, G⟩ := T.h
  exact He.glo_ok X G (T.c.fact 9 rfl)
theorem Tx.f_bool (T : Tx K mg) : mg "bool" = none := by
  obtain ⟨h, X, G⟩ := T.h
  exact He.free_ok X G (T.c.fact 10 rfl)
theorem Tx.f_int (T : Tx K mg) : mg "int" = none := by
  obtain ⟨h, X, G⟩ := T.h
  exact He.free_ok X G (T.c.fact 11 rfl)
theorem Tx.f_isinstance (T : Tx K mg) : mg "isinstance" = none := by
  obtain ⟨h, X, G⟩ := T.h
  exact He.free_ok X G (T.c.fact 12 rfl)
theorem Tx.f_len (T : Tx K mg) : mg "len" = none := by
  obtain ⟨h, X, G⟩ := T.h
  exact He.free_ok X G (T.c.fact 13 rfl)
theorem Tx.f_list (T : Tx K mg) : mg "list" = none := by
  obtain ⟨h, X, G⟩ := T.h
  exact He.free_ok X G (T.c.fact 14 rfl)
theorem Tx.f_max (T : Tx K mg) : mg "max" = none := by
  obtain ⟨h, X, G⟩ := T.h
  exact He.free_ok X G (T.c.fact 15 rfl)
theorem Tx.f_min (T : Tx K mg) : mg "min" = none := by
  obtain ⟨h, X, G⟩ := T.h
  exact He.free_ok X G (T.c.fact 16 rfl)
theorem Tx.f_range (T : Tx K mg) : mg "range" = none := by
  obtain ⟨h, X, G⟩ := T.h
  exact He.free_ok X G (T.c.fact 17 rfl)
theorem Tx.f_zip (T : Tx K mg) : mg "zip" = none := by
  obtain ⟨h, X, G⟩ := T.h
  exact He.free_ok X G (T.c.fact 18 rfl)
theorem Tx.c_Stone (T : Tx K mg) : Cls K (He.ga K "Stone") := He.cls_ok (T.c.fact 19 rfl)
theorem Tx.m_Stone (T : Tx K mg) : Mk K (He.ga K "Stone") (He.fAd K ("Stone", some "__init__")) := He.mkr_ok (T.c.fact 20 rfl)
theorem Tx.me_Stone_len (T : Tx K mg) : Meth K (He.ga K "Stone") "__len__" (He.fAd K ("Stone", some "__len__")) := He.meth_ok (T.c.fact 21 rfl)
theorem Tx.me_Stone_ground (T : Tx K mg) : Meth K (He.ga K "Stone") "ground" (He.fAd K ("Stone", some "ground")) := He.meth_ok (T.c.fact 22 rfl)
theorem Tx.me_Stone_left (T : Tx K mg) : Meth K (He.ga K "Stone") "left" (He.fAd K ("Stone", some "left")) := He.meth_ok (T.c.fact 23 rfl)
theorem Tx.n_Stone_size_left (T : Tx K mg) : NoAttr K (He.ga K "Stone") "size_left" := He.noat_ok (T.c.fact 24 rfl)
theorem Tx.n_Stone_least_size (T : Tx K mg) : NoAttr K (He.ga K "Stone") "least_size" := He.noat_ok (T.c.fact 25 rfl)
theorem Tx.n_Stone___bool__ (T : Tx K mg) : NoAttr K (He.ga K "Stone") "__bool__" := He.noat_ok (T.c.fact 26 rfl)
noncomputable def Tx.fd_Stone_init (T : Tx K mg) : FuncData := (T.c.def_ 0 (d := d_Stone_init) rfl).choose
theorem Tx.F_Stone_init (T : Tx K mg) : FunD K "__init__" "Stone.__init__" (defArgs s_Stone_init) (defBody s_Stone_init) (defScope s_Stone_init) [.int 0] [] (He.fAd K ("Stone", some "__init__")) T.fd_Stone_init := (T.c.def_ 0 (d := d_Stone_init) rfl).choose_spec
theorem Tx.k_Stone_init (T : Tx K mg) : PySem.W.keepIn K (.ref (He.fAd K ("Stone", some "__init__"))) = true := T.F_Stone_init.kp
noncomputable def Tx.fd_Stone_left (T : Tx K mg) : FuncData := (T.c.def_ 1 (d := d_Stone_left) rfl).choose
theorem Tx.F_Stone_left (T : Tx K mg) : FunD K "left" "Stone.left" (defArgs s_Stone_left) (defBody s_Stone_left) (defScope s_Stone_left) [] [] (He.fAd K ("Stone", some "left")) T.fd_Stone_left := (T.c.def_ 1 (d := d_Stone_left) rfl).choose_spec
theorem Tx.k_Stone_left (T : Tx K mg) : PySem.W.keepIn K (.ref (He.fAd K ("Stone", some "left"))) = true := T.F_Stone_left.kp
noncomputable def Tx.fd_Stone_len (T : Tx K mg) : FuncData := (T.c.def_ 2 (d := d_Stone_len) rfl).choose
theorem Tx.F_Stone_len (T : Tx K mg) : FunD K "__len__" "Stone.__len__" (defArgs s_Stone_len) (defBody s_Stone_len) (defScope s_Stone_len) [] [] (He.fAd K ("Stone", some "__len__")) T.fd_Stone_len := (T.c.def_ 2 (d := d_Stone_len) rfl).choose_spec
theorem Tx.k_Stone_len (T : Tx K mg) : PySem.W.keepIn K (.ref (He.fAd K ("Stone", some "__len__"))) = true := T.F_Stone_len.kp
noncomputable def Tx.fd_Stone_ground (T : Tx K mg) : FuncData := (T.c.def_ 3 (d := d_Stone_ground) rfl).choose
theorem Tx.F_Stone_ground (T : Tx K mg) : FunD K "ground" "Stone.ground" (defArgs s_Stone_ground) (defBody s_Stone_ground) (defScope s_Stone_ground) [.int 1] [] (He.fAd K ("Stone", some "ground")) T.fd_Stone_ground := (T.c.def_ 3 (d := d_Stone_ground) rfl).choose_spec
theorem Tx.k_Stone_ground (T : Tx K mg) : PySem.W.keepIn K (.ref (He.fAd K ("Stone", some "ground"))) = true := T.F_Stone_ground.kp
noncomputable def Tx.fd_L_deck (T : Tx K mg) : FuncData := (T.c.def_ 4 (d := d_L_deck) rfl).choose
theorem Tx.F_L_deck (T : Tx K mg) : FunD K "_law_deck" "_law_deck" (defArgs s_L_deck) (defBody s_L_deck) (defScope s_L_deck) [] [] (He.fAd K ("_law_deck", none)) T.fd_L_deck := (T.c.def_ 4 (d := d_L_deck) rfl).choose_spec
theorem Tx.k_L_deck (T : Tx K mg) : PySem.W.keepIn K (.ref (He.fAd K ("_law_deck", none))) = true := T.F_L_deck.kp
noncomputable def Tx.fd_L_draw (T : Tx K mg) : FuncData := (T.c.def_ 5 (d := d_L_draw) rfl).choose
theorem Tx.F_L_draw (T : Tx K mg) : FunD K "_law_draw" "_law_draw" (defArgs s_L_draw) (defBody s_L_draw) (defScope s_L_draw) [] [] (He.fAd K ("_law_draw", none)) T.fd_L_draw := (T.c.def_ 5 (d := d_L_draw) rfl).choose_spec
theorem Tx.k_L_draw (T : Tx K mg) : PySem.W.keepIn K (.ref (He.fAd K ("_law_draw", none))) = true := T.F_L_draw.kp
noncomputable def Tx.fd_L_whole (T : Tx K mg) : FuncData := (T.c.def_ 6 (d := d_L_whole) rfl).choose
theorem Tx.F_L_whole (T : Tx K mg) : FunD K "_law_whole" "_law_whole" (defArgs s_L_whole) (defBody s_L_whole) (defScope s_L_whole) [] [] (He.fAd K ("_law_whole", none)) T.fd_L_whole := (T.c.def_ 6 (d := d_L_whole) rfl).choose_spec
theorem Tx.k_L_whole (T : Tx K mg) : PySem.W.keepIn K (.ref (He.fAd K ("_law_whole", none))) = true := T.F_L_whole.kp
noncomputable def Tx.fd_L_stone (T : Tx K mg) : FuncData := (T.c.def_ 7 (d := d_L_stone) rfl).choose
theorem Tx.F_L_stone (T : Tx K mg) : FunD K "_law_stone" "_law_stone" (defArgs s_L_stone) (defBody s_L_stone) (defScope s_L_stone) [] [] (He.fAd K ("_law_stone", none)) T.fd_L_stone := (T.c.def_ 7 (d := d_L_stone) rfl).choose_spec
theorem Tx.k_L_stone (T : Tx K mg) : PySem.W.keepIn K (.ref (He.fAd K ("_law_stone", none))) = true := T.F_L_stone.kp
noncomputable def Tx.fd_L_ground (T : Tx K mg) : FuncData := (T.c.def_ 8 (d := d_L_ground) rfl).choose
theorem Tx.F_L_ground (T : Tx K mg) : FunD K "_law_ground" "_law_ground" (defArgs s_L_ground) (defBody s_L_ground) (defScope s_L_ground) [] [] (He.fAd K ("_law_ground", none)) T.fd_L_ground := (T.c.def_ 8 (d := d_L_ground) rfl).choose_spec
theorem Tx.k_L_ground (T : Tx K mg) : PySem.W.keepIn K (.ref (He.fAd K ("_law_ground", none))) = true := T.F_L_ground.kp
noncomputable def Tx.fd_L_stands (T : Tx K mg) : FuncData := (T.c.def_ 9 (d := d_L_stands) rfl).choose
theorem Tx.F_L_stands (T : Tx K mg) : FunD K "_law_stands" "_law_stands" (defArgs s_L_stands) (defBody s_L_stands) (defScope s_L_stands) [] [] (He.fAd K ("_law_stands", none)) T.fd_L_stands := (T.c.def_ 9 (d := d_L_stands) rfl).choose_spec
theorem Tx.k_L_stands (T : Tx K mg) : PySem.W.keepIn K (.ref (He.fAd K ("_law_stands", none))) = true := T.F_L_stands.kp
noncomputable def Tx.fd_L_deed (T : Tx K mg) : FuncData := (T.c.def_ 10 (d := d_L_deed) rfl).choose
theorem Tx.F_L_deed (T : Tx K mg) : FunD K "_law_deed" "_law_deed" (defArgs s_L_deed) (defBody s_L_deed) (defScope s_L_deed) [] [] (He.fAd K ("_law_deed", none)) T.fd_L_deed := (T.c.def_ 10 (d := d_L_deed) rfl).choose_spec
theorem Tx.k_L_deed (T : Tx K mg) : PySem.W.keepIn K (.ref (He.fAd K ("_law_deed", none))) = true := T.F_L_deed.kp
noncomputable def Tx.fd_L_done (T : Tx K mg) : FuncData := (T.c.def_ 11 (d := d_L_done) rfl).choose
theorem Tx.F_L_done (T : Tx K mg) : FunD K "_law_done" "_law_done" (defArgs s_L_done) (defBody s_L_done) (defScope s_L_done) [] [] (He.fAd K ("_law_done", none)) T.fd_L_done := (T.c.def_ 11 (d := d_L_done) rfl).choose_spec
theorem Tx.k_L_done (T : Tx K mg) : PySem.W.keepIn K (.ref (He.fAd K ("_law_done", none))) = true := T.F_L_done.kp
noncomputable def Tx.fd_law (T : Tx K mg) : FuncData := (T.c.def_ 12 (d := d_law) rfl).choose
theorem Tx.F_law (T : Tx K mg) : FunD K "law" "law" (defArgs s_law) (defBody s_law) (defScope s_law) [] [] (He.fAd K ("law", none)) T.fd_law := (T.c.def_ 12 (d := d_law) rfl).choose_spec
theorem Tx.k_law (T : Tx K mg) : PySem.W.keepIn K (.ref (He.fAd K ("law", none))) = true := T.F_law.kp
theorem Tx.b_Stone_init_2 (T : Tx K mg) : BindsD K T.fd_Stone_init ["self", "size", "least"] [.int 0] := T.F_Stone_init.binds1 2 0 (by simp) (by decide) (fun _ _ _ _ _ _ _ us its hl hl2 => match us, its, hl, hl2 with | [_, _], [_], _, _ => ⟨_, rfl, rfl⟩)
theorem Tx.b_Stone_init_2_least (T : Tx K mg) : KBnD K T.fd_Stone_init ["self", "size", "least"] 2 ["least"] (fun vs zs => vs ++ zs) := by
  obtain ⟨its, h⟩ := T.F_Stone_init.kbindsD 2 ["least"] (fun {_} us _ ws => us ++ ws) (by simp) (fun r _ z => r.append z) (fun _ _ _ _ _ _ _ us its ws hl hl2 hl3 => match us, its, ws, hl, hl2, hl3 with | [_, _], [_], [_], _, _, _ => ⟨_, by rfl, by kernel_rfl⟩)
  exact ⟨_, h⟩
theorem Tx.b_Stone_init_3 (T : Tx K mg) : BindsD K T.fd_Stone_init ["self", "size", "least"] [] := T.F_Stone_init.binds1 3 1 (by simp) (by decide) (fun _ _ _ _ _ _ _ us its hl hl2 => match us, its, hl, hl2 with | [_, _, _], [_], _, _ => ⟨_, rfl, rfl⟩)
theorem Tx.b_Stone_len (T : Tx K mg) : BindsD K T.fd_Stone_len ["self"] [] := .of (T.F_Stone_len.bindsN fun _ _ _ _ _ _ us hl => match us, hl with | [_], _ => rfl)
theorem Tx.b_Stone_ground_2 (T : Tx K mg) : BindsD K T.fd_Stone_ground ["self", "blades", "wear"] [.int 1] := T.F_Stone_ground.binds1 2 0 (by simp) (by decide) (fun _ _ _ _ _ _ _ us its hl hl2 => match us, its, hl, hl2 with | [_, _], [_], _, _ => ⟨_, rfl, rfl⟩)
theorem Tx.b_Stone_ground_2_wear (T : Tx K mg) : KBnD K T.fd_Stone_ground ["self", "blades", "wear"] 2 ["wear"] (fun vs zs => vs ++ zs) := by
  obtain ⟨its, h⟩ := T.F_Stone_ground.kbindsD 2 ["wear"] (fun {_} us _ ws => us ++ ws) (by simp) (fun r _ z => r.append z) (fun _ _ _ _ _ _ _ us its ws hl hl2 hl3 => match us, its, ws, hl, hl2, hl3 with | [_, _], [_], [_], _, _, _ => ⟨_, by rfl, by kernel_rfl⟩)
  exact ⟨_, h⟩
theorem Tx.b_Stone_ground_3 (T : Tx K mg) : BindsD K T.fd_Stone_ground ["self", "blades", "wear"] [] := T.F_Stone_ground.binds1 3 1 (by simp) (by decide) (fun _ _ _ _ _ _ _ us its hl hl2 => match us, its, hl, hl2 with | [_, _, _], [_], _, _ => ⟨_, rfl, rfl⟩)
theorem Tx.b_Stone_left (T : Tx K mg) : BindsD K T.fd_Stone_left ["self"] [] := .of (T.F_Stone_left.bindsN fun _ _ _ _ _ _ us hl => match us, hl with | [_], _ => rfl)
theorem Tx.b_L_deck (T : Tx K mg) : BindsD K T.fd_L_deck ["_law_script"] [] := .of (T.F_L_deck.bindsN fun _ _ _ _ _ _ us hl => match us, hl with | [_], _ => rfl)
theorem Tx.b_L_deed (T : Tx K mg) : BindsD K T.fd_L_deed ["_law_deck_here", "_law_one"] [] := .of (T.F_L_deed.bindsN fun _ _ _ _ _ _ us hl => match us, hl with | [_, _], _ => rfl)
theorem Tx.b_L_done (T : Tx K mg) : BindsD K T.fd_L_done ["_law_deck_here", "_law_one"] [] := .of (T.F_L_done.bindsN fun _ _ _ _ _ _ us hl => match us, hl with | [_, _], _ => rfl)
theorem Tx.b_L_draw (T : Tx K mg) : BindsD K T.fd_L_draw ["_law_deck_here", "_law_most"] [] := .of (T.F_L_draw.bindsN fun _ _ _ _ _ _ us hl => match us, hl with | [_, _], _ => rfl)
theorem Tx.b_L_ground (T : Tx K mg) : BindsD K T.fd_L_ground ["_law_stone_here", "_law_blades", "_law_taking", "_law_way"] [] := .of (T.F_L_ground.bindsN fun _ _ _ _ _ _ us hl => match us, hl with | [_, _, _, _], _ => rfl)
theorem Tx.b_L_stands (T : Tx K mg) : BindsD K T.fd_L_stands ["_law_one"] [] := .of (T.F_L_stands.bindsN fun _ _ _ _ _ _ us hl => match us, hl with | [_], _ => rfl)
theorem Tx.b_L_stone (T : Tx K mg) : BindsD K T.fd_L_stone ["_law_deck_here"] [] := .of (T.F_L_stone.bindsN fun _ _ _ _ _ _ us hl => match us, hl with | [_], _ => rfl)
theorem Tx.b_L_whole (T : Tx K mg) : BindsD K T.fd_L_whole ["_law_thing"] [] := .of (T.F_L_whole.bindsN fun _ _ _ _ _ _ us hl => match us, hl with | [_], _ => rfl)
end
local macro_rules | `(tactic| tm_at "cls") => `(tactic| first | exact Tx.c_Stone (by assumption))
local macro_rules | `(tactic| tm_at "noat") => `(tactic| first | exact Tx.n_Stone_size_left (by assumption) | exact Tx.n_Stone_least_size (by assumption) | exact Tx.n_Stone___bool__ (by assumption))
section
variable {P : Program} {w : World} {K : PySem.W.Frag} {mg : Str → Option Value} {base : Heap}
/-- a stone's fields -/
def stF (z l : Int) : List (Str × V) := [("size_left", .int z), ("least_size", .int l)]
def StoneAt (K : PySem.W.Frag) (H : Hp) (p : Addr) (z l : Int) : Prop := ∃ dx, H p = some (.ins (He.ga K "Stone") dx (stF z l))
def spInit (K : PySem.W.Frag) : Sp := fun vs H Q _ => ∃ (p dx : Addr) (z l : Int), vs = [.ref p, .int z, .int l] ∧ H p = some (.ins (He.ga K "Stone") dx []) ∧ Q .non (upd H p (.ins (He.ga K "Stone") dx (stF z l)))
theorem sc_Stone_init : FnScope ["self", "size", "least"] ["self", "size", "least"] (defScope s_Stone_init) := ⟨rfl, rfl, rfl, by decide +kernel, rfl, by decide +kernel, by decide +kernel⟩
theorem ok_Stone_init (T : Tx K mg) : FnOk P w K mg base CX0 1 (He.fAd K ("Stone", some "__init__")) T.fd_Stone_init ["self", "size", "least"] (spInit K) := by
  refine T.F_Stone_init.ok sc_Stone_init (fun vs H Q E h => ?_) (fun cdv A outer s H vs Q E hr h => ⟨_, PSs.nox (pss_cons (ps_fld (pv 0) (pv 1) rfl)
  (pss_one (ps_fld (pv 0) (pv 2) rfl))), ?_⟩)
  · obtain ⟨p, dx, z, l, rfl, _⟩ := h
    rfl
  · obtain ⟨p, dx, z, l, rfl, hp, k⟩ := h
    show (_ : TS) (_ : Ends) [some _, some _, some _] _
    try dsimp only [cxOf]
    tm_at "n"
    rw [upd_upd]
    exact k
def spLeft (K : PySem.W.Frag) : Sp := fun vs H Q _ => ∃ (p : Addr) (z l : Int), vs = [.ref p] ∧ StoneAt K H p z l ∧ Q (.int z) H
theorem sc_Stone_left : FnScope ["self"] ["self"] (defScope s_Stone_left) := ⟨rfl, rfl, rfl, by decide +kernel, rfl, by decide +kernel, by decide +kernel⟩
theorem ok_Stone_left (T : Tx K mg) : FnOk P w K mg base CX0 1 (He.fAd K ("Stone", some "left")) T.fd_Stone_left ["self"] (spLeft K) := by
  refine T.F_Stone_left.ok sc_Stone_left (fun vs H Q E h => ?_) (fun cdv A outer s H vs Q E hr h => ⟨_, PSs.nox (pss_one (ps_ret (pe_fld (pv 0) rfl))), ?_⟩)
  · obtain ⟨p, z, l, rfl, _⟩ := h
    rfl
  · obtain ⟨p, z, l, rfl, ⟨dx, hp⟩, k⟩ := h
    show (_ : TS) (_ : Ends) [some _] _
    try dsimp only [cxOf]
    tm_at "n"
    exact k
def spLen (K : PySem.W.Frag) : Sp := fun vs H Q _ => ∃ (p : Addr) (z l : Int), vs = [.ref p] ∧ StoneAt K H p z l ∧ l ≤ z ∧ z - l < 2 ^ 62 ∧ ∀ H', KeepBut [] H H' → Q (.int (z - l)) H'
theorem sc_Stone_len : FnScope ["self"] ["self"] (defScope s_Stone_len) := ⟨rfl, rfl, rfl, by decide +kernel, rfl, by decide +kernel, by decide +kernel⟩
theorem ok_Stone_len (T : Tx K mg) : FnOk P w K mg base CX0 1 (He.fAd K ("Stone", some "__len__")) T.fd_Stone_len ["self"] (spLen K) := by
  refine T.F_Stone_len.ok sc_Stone_len (fun vs H Q E h => ?_) (fun cdv A outer s H vs Q E hr h => ⟨_, PSs.nox (pss_one (ps_ret (pe_callB cb_lenR (by rfl) T.f_len (by decide +kernel) (pa_cons (pe_callTy cb_rng2 (by rfl) T.f_range (by decide +kernel) (pa_cons (pe_fld (pv 0) rfl) (pa_cons (pe_fld (pv 0) rfl) pa_nil))) pa_nil)))), ?_⟩)
  · obtain ⟨p, z, l, rfl, _⟩ := h
    rfl
  · obtain ⟨p, z, l, rfl, ⟨dx, hp⟩, hl, hz, k⟩ := h
    show (_ : TS) (_ : Ends) [some _] _
    try dsimp only [cxOf]
    tm_at "n"
    refine n_lenR upd_same (by omega) ?_
    have e : (if l < z then z - l else 0) = z - l := by split <;> omega
    rw [e]
    exact k _ (KeepBut.refl.new (by assumption))
def grind (b z l t : Int) : Int := if (z - l) / t < b then (z - l) / t else b
def spGround (K : PySem.W.Frag) : Sp := fun vs H Q _ => ∃ (p : Addr) (b z l t : Int), vs = [.ref p, .int b, .int t] ∧ StoneAt K H p z l ∧ 0 < t ∧ t < 2 ^ 62 ∧ ∀ H', KeepBut [p] H H' → StoneAt K H' p (z - grind b z l t * t) l → Q (.int (grind b z l t)) H'
theorem sc_Stone_ground : FnScope ["self", "blades", "wear", "many"] ["self", "blades", "wear"] (defScope s_Stone_ground) := ⟨rfl, rfl, rfl, by decide +kernel, rfl, by decide +kernel, by decide +kernel⟩
theorem ok_Stone_ground (T : Tx K mg) : FnOk P w K mg base CX0 1 (He.fAd K ("Stone", some "ground")) T.fd_Stone_ground ["self", "blades", "wear"] (spGround K) := by
  refine T.F_Stone_ground.ok sc_Stone_ground (fun vs H Q E h => ?_) (fun cdv A outer s H vs Q E hr h => ⟨_, PSs.nox (pss_cons (ps_set (i := 3) sc_Stone_ground.nd rfl (.inl rfl) (pe_callB (cb_min2 rfl) (by rfl) T.f_min (by decide +kernel) (pa_cons (pv 1) (pa_cons (pe_op op_fdivW (pe_op op_sub (pe_fld (pv 0) rfl) (pe_fld (pv 0) rfl)) (pv 2)) pa_nil))))
  (pss_cons (ps_fldaug (pv 0) (pe_op ob_mul (pv 3) (pv 2)) in_sub)
  (pss_one (ps_ret (pv 3))))), ?_⟩)
  · obtain ⟨p, b, z, l, t, rfl, _⟩ := h
    rfl
  · obtain ⟨p, b, z, l, t, rfl, ⟨dx, hp⟩, ht, ht2, k⟩ := h
    show (_ : TS) (_ : Ends) [some _, some _, some _, none] _
    try dsimp only [cxOf]
    tm_at "n"
    exact k _ (KeepBut.refl.mut (.inl (by simp))) ⟨dx, upd_same⟩
theorem int_of_map {ms : List Int} {i : Nat} {x : V} (h : (ms.map V.int)[i]? = some x) : ∃ z, x = .int z ∧ ms[i]? = some z := by
  rw [List.getElem?_map] at h
  cases e : ms[i]? with
  | none => rw [e] at h; cases h
  | some z => rw [e] at h; exact ⟨z, (Option.some.inj h).symm, rfl⟩
theorem cut_ints (ms : List Int) (lo hi : Option Int) : ∃ ns : List Int, cutV (ms.map V.int) lo hi = ns.map V.int ∧ ns.length ≤ ms.length := by
  unfold cutV
  refine ⟨(ms.drop _).take _, by rw [List.map_take, List.map_drop], ?_⟩
  rw [List.length_take, List.length_drop]
  omega
theorem int_of_cut {ms : List Int} {lo hi : Option Int} {i : Nat} {x : V} (h : (cutV (ms.map V.int) lo hi)[i]? = some x) : ∃ z, x = .int z := by
  obtain ⟨ns, e, _⟩ := cut_ints ms lo hi
  rw [e] at h
  obtain ⟨z, e, _⟩ := int_of_map h
  exact ⟨z, e⟩
/-- a deck: a dict, its list of ints -/
def deckF (l : Addr) (s n : Int) : List (Str × V) := [("cells", .ref l), ("seed", .int s), ("at", .int n)]
structure Deck (H : Hp) (a l : Addr) : Prop where
  ne : a ≠ l
  st : ∃ (s n : Int) (ns : List Int), H a = some (.dK (recK (deckF l s n))) ∧ H l = some (.lst (ns.map V.int)) ∧ ns.length ≤ 63 ∧ 0 ≤ s ∧ s < 2305843009213693951
def spDeck (K : PySem.W.Frag) : Sp := fun vs H Q _ => ∃ (b : Addr) (ms : List Int), vs = [.ref b] ∧ SqL K H b (ms.map V.int) ∧ ms.length ≤ 63 ∧ ∀ a l H', H a = none → H l = none → KeepBut [] H H' → Deck H' a l → Q (.ref a) H'
theorem sc_L_deck : FnScope ["_law_script", "_law_seed", "_law_cell"] ["_law_script"] (defScope s_L_deck) := ⟨rfl, rfl, rfl, by decide +kernel, rfl, by decide +kernel, by decide +kernel⟩
theorem ok_L_deck (T : Tx K mg) : FnOk P w K mg base CX0 1 (He.fAd K ("_law_deck", none)) T.fd_L_deck ["_law_script"] (spDeck K) := by
  refine T.F_L_deck.ok sc_L_deck (fun vs H Q E h => ?_) (fun cdv A outer s H vs Q E hr h => ⟨_, PSs.nox (pss_cons (ps_set (i := 1) sc_L_deck.nd rfl (.inl rfl) pe_int)
  (pss_cons (ps_for (PassesOwn.never) rfl (pi_list (pe_slice sl_list (pv 0) po_none (po_some pe_int))) (pg_name (i := 2) sc_L_deck.nd rfl (.inl rfl)) (pss_one (ps_set (i := 1) sc_L_deck.nd rfl (.inl rfl) (pe_op op_mod (pe_op op_add (pe_op op_add (pe_op ob_mul (pe_op ob_mul (pv 1) pe_int) pe_int) (pv 2)) pe_int) pe_int))))
  (pss_one (ps_ret (pe_disp (pps_cons pe_str (pe_revL (pe_callTy cb_list (by rfl) T.f_list (by decide +kernel) (pa_cons (pe_slice sl_list (pv 0) po_none (po_some pe_int)) pa_nil))) (pps_cons pe_str (pv 1) (pps_cons pe_str pe_int pps_nil))) (by rfl) (by rfl) (fun z => by cases z) (by decide)))))), ?_⟩)
  · obtain ⟨b, ms, rfl, _⟩ := h
    rfl
  · obtain ⟨b, ms, rfl, hb, hl, k⟩ := h
    show (_ : TS) (_ : Ends) [some _, none, none] _
    try dsimp only [cxOf]
    tm_at "n"
    rename_i p np
    refine for_list (K := K) (a := p) (xs := cutV (ms.map V.int) none (some 63)) (fun i σ H' => ∃ (s : Int) (v : Option V), σ = [some (.ref b), some (.int s), v] ∧ 0 ≤ s ∧ s < 2305843009213693951 ∧ H' = upd H p (.lst (cutV (ms.map V.int) none (some 63)))) ?_ ?_ ?_ ?_
    · exact ⟨7, none, rfl, by omega, by omega, rfl⟩
    · rintro i σ H' _ ⟨s, v, _, _, _, rfl⟩
      exact SqL.of upd_same
    · rintro i x σ H' hx ⟨s, v, rfl, s0, s1, rfl⟩
      obtain ⟨z, rfl⟩ := int_of_cut hx
      tm_at "n"
      exact ⟨_, _, rfl, Int.emod_nonneg _ (by decide), Int.emod_lt_of_pos _ (by decide), rfl⟩
    · rintro σ H' ⟨s, v, rfl, s0, s1, rfl⟩
      tm_at "n"
      obtain ⟨ns, en, hn⟩ := cut_ints ms none (some 63)
      rename_i p1 n1 p2 n2 p3 n3 p4 n4
      simp only [en] at n1 n2 n3 n4 ⊢
      refine k p1 p4 _ (free_new n1) (free_new (free_new (free_new (free_new n4)))) ?_ ⟨?_, s, 0, ns.reverse, upd_same, ?_, ?_, s0, s1⟩
      · refine KeepBut.mutF ?_ (free_new n1)
        tm_at "kp"
      · tm_at "ne"
      · rw [List.map_reverse]
        tm_at "hp"
      · rw [List.length_reverse]; omega
def spDraw : Sp := fun vs H Q _ => ∃ (a l : Addr) (m : Int), vs = [.ref a, .int m] ∧ Deck H a l ∧ 0 < m ∧ m < 2 ^ 62 ∧ ∀ (d : Int) H', 0 ≤ d → d < m → Deck H' a l → KeepBut [a, l] H H' → Q (.int d) H'
theorem sc_L_draw : FnScope ["_law_deck_here", "_law_most", "_law_cell", "_law_number"] ["_law_deck_here", "_law_most"] (defScope s_L_draw) := ⟨rfl, rfl, rfl, by decide +kernel, rfl, by decide +kernel, by decide +kernel⟩
theorem ok_L_draw (T : Tx K mg) : FnOk P w K mg base CX0 1 (He.fAd K ("_law_draw", none)) T.fd_L_draw ["_law_deck_here", "_law_most"] (spDraw) := by
  refine T.F_L_draw.ok sc_L_draw (fun vs H Q E h => ?_) (fun cdv A outer s H vs Q E hr h => ⟨_, PSs.nox (pss_cons (ps_dput (hu_of hr) (pv 0) pe_str (pe_op op_add (pe_dget (hu_of hr) (pv 0) pe_str (fun _ _ => rfl)) pe_int) rfl)
  (pss_cons (ps_set (i := 2) sc_L_draw.nd rfl (.inl rfl) pe_int)
  (pss_cons (ps_if (pt_cmpR (op_neD hr.units) (pe_dget (hu_of hr) (pv 0) pe_str (fun _ _ => rfl)) (pe_lst pa_nil) (nomark _)) (pss_cons (ps_set (i := 2) sc_L_draw.nd rfl (.inl rfl) (pe_bm0 PySem.F.plainAttrs_list PySem.F.slot_list_pop PySem.F.type_list_pop mt_pop (pe_dget (hu_of hr) (pv 0) pe_str (fun _ _ => rfl))))
  (pss_one (ps_if (pt_cmpR op_ge (pv 2) (pe_op op_pow pe_int pe_int) (nomark _)) (pss_cons (ps_expr (pe_bm PySem.F.plainAttrs_list PySem.F.slot_list_append PySem.F.type_list_append mt_append (pe_dget (hu_of hr) (pv 0) pe_str (fun _ _ => rfl)) (pa_cons (pe_op op_fdivW (pv 2) (pv 1)) pa_nil)))
  (pss_one (ps_ret (pe_op op_mod (pv 2) (pv 1))))) pss_nil))) pss_nil)
  (pss_cons (ps_set (i := 3) sc_L_draw.nd rfl (.inl rfl) (pe_op op_mod (pe_op op_add (pe_op op_add (pe_dget (hu_of hr) (pv 0) pe_str (fun _ _ => rfl)) (pv 2)) (pe_op ob_mul pe_int (pe_dget (hu_of hr) (pv 0) pe_str (fun _ _ => rfl)))) pe_int))
  (pss_cons (ps_set (i := 3) sc_L_draw.nd rfl (.inl rfl) (pe_op op_mod (pe_op op_add (pe_op op_add (pe_op ob_mul (pv 3) (pv 3)) (pe_op ob_mul pe_int (pe_dget (hu_of hr) (pv 0) pe_str (fun _ _ => rfl)))) pe_int) pe_int))
  (pss_cons (ps_set (i := 3) sc_L_draw.nd rfl (.inl rfl) (pe_op op_mod (pe_op op_add (pe_op ob_mul (pv 3) (pv 3)) pe_int) pe_int))
  (pss_one (ps_ret (pe_op op_mod (pe_op op_fdivW (pv 3) pe_int) (pv 1)))))))))), ?_⟩)
  · obtain ⟨a, l, m, rfl, _⟩ := h
    rfl
  · obtain ⟨a, l, m, rfl, ⟨ne, s, n, ns, ha, hl, hz, s0, s1⟩, m0, m1, k⟩ := h
    show (_ : TS) (_ : Ends) [some _, some _, none, none] _
    try dsimp only [cxOf]
    tm_at "n"
    refine n_iteN (fun hc => ?_) (fun hc => ?_)
    · obtain ⟨r, x, e⟩ := last_of (l := ns) (by rintro rfl; simp at hc)
      subst e
      tm_at "n"
      refine n_iteD (p := 1000000000000000000 ≤ x) (fun hx => ?_) (fun hx => ?_)
      · tm_at "n"
        refine n_appI upd_same (by simp at hz; omega) ?_
        tm_at "n"
        refine k _ _ (Int.emod_nonneg _ (by omega)) (Int.emod_lt_of_pos _ (by omega)) ⟨ne, s, n + 1, r ++ [x / m], ?_, upd_same, by simp at hz ⊢; omega, s0, s1⟩ (by tm_at "kp")
        tm_at "hq"
      · tm_at "n"
        refine k _ _ (Int.emod_nonneg _ (by omega)) (Int.emod_lt_of_pos _ (by omega)) ⟨ne, s, n + 1, r, ?_, upd_same, by simp at hz ⊢; omega, s0, s1⟩ (by tm_at "kp")
        tm_at "hq"
    · tm_at "n"
      refine k _ _ (Int.emod_nonneg _ (by omega)) (Int.emod_lt_of_pos _ (by omega)) ⟨ne, s, n + 1, ns, ?_, ?_, by omega, s0, s1⟩ (by tm_at "kp")
      · tm_at "hq"
      · tm_at "hq"
theorem n_draw {vs : List V} {H : Hp} {Q : VK} {E : XK} {a l : Addr} {m : Int} (e : vs = [.ref a, .int m]) (D : Deck H a l) (m0 : 0 < m) (m1 : m < 2 ^ 62)
    (k : ∀ (d : Int) H', 0 ≤ d → d < m → Deck H' a l → KeepBut [a, l] H H' → Q (.int d) H') : spDraw vs H Q E := ⟨a, l, m, e, D, m0, m1, k⟩
theorem Deck.keep {H H' : Hp} {a l : Addr} {M : List Addr} (D : Deck H a l) (k : KeepBut M H H') (n1 : a ∉ M) (n2 : l ∉ M) : Deck H' a l := by
  obtain ⟨ne, s, n, ns, h1, h2, r⟩ := D
  exact ⟨ne, s, n, ns, k _ _ h1 n1, k _ _ h2 n2, r⟩
theorem Deck.new {H : Hp} {a l p : Addr} {o : HO} (D : Deck H a l) (np : H p = none) : Deck (upd H p o) a l := D.keep (M := []) (KeepBut.refl.new np) (by simp) (by simp)
theorem Deck.nd {H : Hp} {a l p : Addr} {o : HO} (D : Deck H a l) (h : H p = some o) (hk : ∀ fs, o ≠ .dK fs) (hl : ∀ xs, o ≠ .lst xs) : p ≠ a ∧ p ≠ l := by
  obtain ⟨ne, s, n, ns, h1, h2, r⟩ := D
  exact ⟨ne_of h h1 (hk _), ne_of h h2 (hl _)⟩
theorem Deck.ofNew {H : Hp} {a l p : Addr} (D : Deck H a l) (np : H p = none) : p ≠ a ∧ p ≠ l := by
  obtain ⟨ne, s, n, ns, h1, h2, r⟩ := D
  exact ⟨(ne_of_none h1 np).symm, (ne_of_none h2 np).symm⟩
theorem Deck.free {H H1 : Hp} {a l p : Addr} (D : Deck H1 a l) (k : KeepBut [a, l] H H1) (np : H1 p = none) : H p = none := k.free np (nm2 (D.ofNew np).1 (D.ofNew np).2)
theorem StoneAt.keep {H H' : Hp} {p : Addr} {z lo : Int} {M : List Addr} (s : StoneAt K H p z lo) (k : KeepBut M H H') (n : p ∉ M) : StoneAt K H' p z lo := by
  obtain ⟨dx, h⟩ := s
  exact ⟨dx, k _ _ h n⟩
theorem StoneAt.new {H : Hp} {p q : Addr} {z lo : Int} {o : HO} (s : StoneAt K H p z lo) (nq : H q = none) : StoneAt K (upd H q o) p z lo := s.keep (M := []) (KeepBut.refl.new nq) (by simp)
theorem StoneAt.nd {H : Hp} {p a l : Addr} {z lo : Int} (s : StoneAt K H p z lo) (D : Deck H a l) : p ∉ [a, l] := by
  obtain ⟨dx, h⟩ := s
  obtain ⟨h1, h2⟩ := D.nd h (by intro _ q; cases q) (by intro _ q; cases q)
  simp [h1, h2]
theorem StoneAt.draw {H H' : Hp} {p a l : Addr} {z lo : Int} (s : StoneAt K H p z lo) (k : KeepBut [a, l] H H') (D : Deck H a l) : StoneAt K H' p z lo := s.keep k (s.nd D)
theorem StoneAt.lookF {H : Hp} {p : Addr} {z lo : Int} (s : StoneAt K H p z lo) : ∃ dx, H p = some (.ins (He.ga K "Stone") dx (stF z lo)) := s
theorem n_mkStone {C : Addr} {f : Addr → List V} {H : Hp} {R : Addr → Hp → Prop} {E : XK} {z lo : Int} (hC : C = He.ga K "Stone") (e : ∀ x, f x = [.ref x, .int z, .int lo]) (k : ∀ p H', H p = none → KeepBut [] H H' → StoneAt K H' p z lo → R p H') :
    makeK C H fun x H2 => spInit K (f x) H2 (fun v H3 => v = .non ∧ R x H3) E := by
  subst hC
  intro x dx nx nd ne
  refine ⟨x, dx, z, lo, e x, upd_same, rfl, ?_⟩
  refine k x _ nx ?_ ⟨dx, upd_same⟩
  refine KeepBut.mutF (KeepBut.mutF (KeepBut.mutF .refl nd) nx) nx
local macro_rules | `(tactic| tm_at "dk") => `(tactic| first
  | with_reducible assumption
  | ((with_reducible refine' Deck.new ?hd ?hn); (case hn => with_reducible assumption); (case hd => tm_at "dk"))
  | ((with_reducible refine' Deck.keep ?hd ?hk ?h1 ?h2); (case hk => with_reducible assumption); (case hd => tm_at "dk"); (case h1 => tm_at "nm"); (case h2 => tm_at "nm")))
local macro_rules | `(tactic| tm_at "ne") => `(tactic| first
  | ((refine' (Deck.ofNew ?hD ?hn).1); (case hn => with_reducible assumption); (case hD => tm_at "dk"))
  | ((refine' (Deck.ofNew ?hD ?hn).2); (case hn => with_reducible assumption); (case hD => tm_at "dk"))
  | (symm; ((refine' (Deck.ofNew ?hD ?hn).1); (case hn => with_reducible assumption); (case hD => tm_at "dk")))
  | (symm; ((refine' (Deck.ofNew ?hD ?hn).2); (case hn => with_reducible assumption); (case hD => tm_at "dk"))))
local macro_rules | `(tactic| tm_at "st") => `(tactic| first
  | with_reducible assumption
  | ((with_reducible refine' StoneAt.new ?hd ?hn); (case hn => with_reducible assumption); (case hd => tm_at "st"))
  | ((with_reducible refine' StoneAt.draw ?hd ?hk ?hD); (case hk => with_reducible assumption); (case hD => tm_at "dk"); (case hd => tm_at "st"))
  | ((with_reducible refine' StoneAt.keep ?hd ?hk ?h1); (case hk => with_reducible assumption); (case hd => tm_at "st"); (case h1 => tm_at "nm")))
local macro_rules | `(tactic| tm_at "fe") => `(tactic| first
  | with_reducible assumption
  | ((refine' Deck.free ?hD ?hk ?hh); (case hh => with_reducible assumption); (case hD => tm_at "dk"); (case hk => tm_at "kp")))
local macro_rules | `(tactic| tm_at "n1") => `(tactic| first
  | ((with_reducible refine' n_draw ?he ?hd ?h0 ?h1 (fun d H' d0 d1 D' k' => ?_)); (case he => exact rfl); (case hd => tm_at "dk"); (case h0 => omega); (case h1 => omega))
  | ((with_reducible refine' n_mkStone ?hC ?he (fun p H' np k' s' => ?_)); (case hC => exact rfl); (case he => exact fun _ => rfl)))
def spWhole : Sp := fun vs H Q _ => ∃ i : Int, vs = [.int i] ∧ Q (.bl true) H
theorem sc_L_whole : FnScope ["_law_thing"] ["_law_thing"] (defScope s_L_whole) := ⟨rfl, rfl, rfl, by decide +kernel, rfl, by decide +kernel, by decide +kernel⟩
theorem ok_L_whole (T : Tx K mg) : FnOk P w K mg base CX0 1 (He.fAd K ("_law_whole", none)) T.fd_L_whole ["_law_thing"] (spWhole) := by
  refine T.F_L_whole.ok sc_L_whole (fun vs H Q E h => ?_) (fun cdv A outer s H vs Q E hr h => ⟨_, PSs.nox (pss_one (ps_ret (pe_and (pe_callB call_isi (by rfl) T.f_isinstance (by decide +kernel) (pa_cons (pv 0) (pa_cons (pe_bltn (v := .ty "int") rfl T.f_int (by decide +kernel) rfl) pa_nil))) (pe_one (pe_not (pe_callB call_isi (by rfl) T.f_isinstance (by decide +kernel) (pa_cons (pv 0) (pa_cons (pe_bltn (v := .ty "bool") rfl T.f_bool (by decide +kernel) rfl) pa_nil)))))))), ?_⟩)
  · obtain ⟨i, rfl, _⟩ := h
    rfl
  · obtain ⟨i, rfl, k⟩ := h
    show (_ : TS) (_ : Ends) [some _] _
    try dsimp only [cxOf]
    tm_at "n"
    refine n_iteT rfl ?_
    tm_at "n"
    exact k
def spStone (K : PySem.W.Frag) : Sp := fun vs H Q _ => ∃ a l : Addr, vs = [.ref a] ∧ Deck H a l ∧ ∀ q p z lo H', H' q = some (.lst [.ref p, .int z, .int lo]) → H q = none → H p = none → Deck H' a l → KeepBut [a, l] H H' → StoneAt K H' p z lo → 0 ≤ lo → lo ≤ z → z ≤ 10 ^ 9 → Q (.ref q) H'
theorem sc_L_stone : FnScope ["_law_deck_here", "_law_way", "_law_sort", "_law_size", "_law_lowest"] ["_law_deck_here"] (defScope s_L_stone) := ⟨rfl, rfl, rfl, by decide +kernel, rfl, by decide +kernel, by decide +kernel⟩
theorem ok_L_stone (T : Tx K mg) : FnOk P w K mg base CX0 3 (He.fAd K ("_law_stone", none)) T.fd_L_stone ["_law_deck_here"] (spStone K) := by
  refine T.F_L_stone.ok sc_L_stone (fun vs H Q E h => ?_) (fun cdv A outer s H vs Q E hr h => ⟨_, PSs.nox (pss_cons (ps_set (i := 1) sc_L_stone.nd rfl (.inl rfl) (pe_callD (ok_L_draw T) (hr.mono (by decide)) rfl T.g__law_draw T.k_L_draw T.b_L_draw pass0 (pa_cons (pv 0) (pa_cons pe_int pa_nil))))
  (pss_cons (ps_set (i := 2) sc_L_stone.nd rfl (.inl rfl) (pe_callD (ok_L_draw T) (hr.mono (by decide)) rfl T.g__law_draw T.k_L_draw T.b_L_draw pass0 (pa_cons (pv 0) (pa_cons pe_int pa_nil))))
  (pss_cons (ps_set (i := 3) sc_L_stone.nd rfl (.inl rfl) (pe_callD (ok_L_draw T) (hr.mono (by decide)) rfl T.g__law_draw T.k_L_draw T.b_L_draw pass0 (pa_cons (pv 0) (pa_cons (pe_ix ix_list (pe_lst (pa_cons pe_int (pa_cons pe_int (pa_cons pe_int (pa_cons (pe_op op_add (pe_op op_pow pe_int pe_int) pe_int) pa_nil))))) (pv 2) (fun _ _ => rfl)) pa_nil))))
  (pss_cons (ps_set (i := 4) sc_L_stone.nd rfl (.inl rfl) (pe_ix ix_list (pe_lst (pa_cons (pe_callD (ok_L_draw T) (hr.mono (by decide)) rfl T.g__law_draw T.k_L_draw T.b_L_draw pass0 (pa_cons (pv 0) (pa_cons (pe_op op_add (pv 3) pe_int) pa_nil))) (pa_cons (pv 3) (pa_cons pe_int pa_nil)))) (pe_callD (ok_L_draw T) (hr.mono (by decide)) rfl T.g__law_draw T.k_L_draw T.b_L_draw pass0 (pa_cons (pv 0) (pa_cons pe_int pa_nil))) (fun _ _ => rfl)))
  (pss_cons (ps_if (pt_cmpR op_eq (pv 1) pe_int (nomark _)) (pss_one (ps_ret (pe_lst (pa_cons (pe_makeD T.m_Stone (ok_Stone_init T) (hr.mono (by decide)) rfl T.g_Stone T.b_Stone_init_2 pass0 (pa_cons (pv 3) pa_nil)) (pa_cons (pv 3) (pa_cons pe_int pa_nil)))))) pss_nil)
  (pss_cons (ps_if (pt_cmpR op_eq (pv 1) pe_int (nomark _)) (pss_one (ps_ret (pe_lst (pa_cons (pe_makeND T.m_Stone (ok_Stone_init T) (hr.mono (by decide)) rfl T.g_Stone T.b_Stone_init_2_least pass0 (pa_cons (pv 3) pa_nil) (pk_cons (pv 4) pk_nil)) (pa_cons (pv 3) (pa_cons (pv 4) pa_nil)))))) pss_nil)
  (pss_one (ps_ret (pe_lst (pa_cons (pe_makeD T.m_Stone (ok_Stone_init T) (hr.mono (by decide)) rfl T.g_Stone T.b_Stone_init_3 pass0 (pa_cons (pv 3) (pa_cons (pv 4) pa_nil))) (pa_cons (pv 3) (pa_cons (pv 4) pa_nil)))))))))))), ?_⟩)
  · obtain ⟨a, l, rfl, _⟩ := h
    rfl
  · obtain ⟨a, l, rfl, D, k⟩ := h
    show (_ : TS) (_ : Ends) [some _, none, none, none, none] _
    try dsimp only [cxOf]
    tm_at "n"
    refine n_ixB 7 (10 ^ 9 + 1) (by tm_at "sq") (by simp [bnd_cons, bnd_nil]) (by assumption) (by simp; omega) (fun m m0 m1 => ?_)
    tm_at "n"
    rename_i z _ z0 z1 _ _ lo _ lo0 lo1 D2 _ r nr i _ i0 i1 _ _
    refine n_ixB 0 z (by tm_at "sq") (by simp [bnd_cons, bnd_nil]; omega) (by assumption) (by simp; omega) (fun m m0 m1 => ?_)
    tm_at "n"
    refine n_iteD (fun _ => ?_) (fun _ => ?_)
    · tm_at "n"
      refine k _ _ _ _ _ (by tm_at "hp") (by tm_at "fe") (by tm_at "fe") (by tm_at "dk") (by tm_at "kp") (by tm_at "st") (by omega) (by omega) (by omega)
    · tm_at "n"
      refine n_iteD (fun _ => ?_) (fun _ => ?_)
      · tm_at "n"
        refine k _ _ _ _ _ (by tm_at "hp") (by tm_at "fe") (by tm_at "fe") (by tm_at "dk") (by tm_at "kp") (by tm_at "st") (by omega) (by omega) (by omega)
      · tm_at "n"
        refine k _ _ _ _ _ (by tm_at "hp") (by tm_at "fe") (by tm_at "fe") (by tm_at "dk") (by tm_at "kp") (by tm_at "st") (by omega) (by omega) (by omega)
theorem n_stone {vs : List V} {H : Hp} {Q : VK} {E : XK} {a l : Addr} (e : vs = [.ref a]) (D : Deck H a l)
    (k : ∀ q p z lo H', H' q = some (.lst [.ref p, .int z, .int lo]) → H q = none → H p = none → Deck H' a l → KeepBut [a, l] H H' → StoneAt K H' p z lo → 0 ≤ lo → lo ≤ z → z ≤ 10 ^ 9 → Q (.ref q) H') : spStone K vs H Q E := ⟨a, l, e, D, k⟩
theorem n_ground {vs : List V} {H : Hp} {Q : VK} {E : XK} {p : Addr} {b z l t : Int} (e : vs = [.ref p, .int b, .int t]) (s : StoneAt K H p z l) (h0 : 0 < t) (h1 : t < 2 ^ 62)
    (k : ∀ H', KeepBut [p] H H' → StoneAt K H' p (z - grind b z l t * t) l → Q (.int (grind b z l t)) H') : spGround K vs H Q E := ⟨p, b, z, l, t, e, s, h0, h1, k⟩
theorem n_left {vs : List V} {H : Hp} {Q : VK} {E : XK} {p : Addr} {z l : Int} (e : vs = [.ref p]) (s : StoneAt K H p z l) (k : Q (.int z) H) : spLeft K vs H Q E := ⟨p, z, l, e, s, k⟩
theorem n_slen {vs : List V} {H : Hp} {Q : VK} {E : XK} {p : Addr} {z l : Int} (e : vs = [.ref p]) (s : StoneAt K H p z l) (h0 : l ≤ z) (h1 : z - l < 2 ^ 62) (k : ∀ H', KeepBut [] H H' → Q (.int (z - l)) H') : spLen K vs H Q E := ⟨p, z, l, e, s, h0, h1, k⟩
theorem n_whole {vs : List V} {H : Hp} {Q : VK} {E : XK} {i : Int} (e : vs = [.int i]) (k : Q (.bl true) H) : spWhole vs H Q E := ⟨i, e, k⟩
local macro_rules | `(tactic| tm_at "n1") => `(tactic| first
  | ((with_reducible refine' n_stone ?he ?hd (fun q p z lo H' hq nq np D' k' s' lo0 lo1 z1 => ?_)); (case he => exact rfl); (case hd => tm_at "dk"))
  | ((with_reducible refine' n_ground ?he ?hd ?h0 ?h1 (fun H' k' s' => ?_)); (case he => exact rfl); (case hd => tm_at "st"); (case h0 => omega); (case h1 => omega))
  | ((with_reducible refine' n_left ?he ?hd ?_); (case he => exact rfl); (case hd => tm_at "st"))
  | ((with_reducible refine' n_slen ?he ?hd ?h0 ?h1 (fun H' k' => ?_)); (case he => exact rfl); (case hd => tm_at "st"); (case h0 => omega); (case h1 => omega))
  | ((with_reducible refine' n_whole ?he ?_); (case he => exact rfl)))
def spGroundL (K : PySem.W.Frag) : Sp := fun vs H Q _ => ∃ (p : Addr) (b z l t y : Int), vs = [.ref p, .int b, .int t, .int y] ∧ StoneAt K H p z l ∧ 0 < t ∧ t < 2 ^ 62 ∧ ∀ H', KeepBut [p] H H' → StoneAt K H' p (z - grind b z l t * t) l → Q (.int (grind b z l t)) H'
theorem sc_L_ground : FnScope ["_law_stone_here", "_law_blades", "_law_taking", "_law_way"] ["_law_stone_here", "_law_blades", "_law_taking", "_law_way"] (defScope s_L_ground) := ⟨rfl, rfl, rfl, by decide +kernel, rfl, by decide +kernel, by decide +kernel⟩
theorem ok_L_ground (T : Tx K mg) : FnOk P w K mg base CX0 2 (He.fAd K ("_law_ground", none)) T.fd_L_ground ["_law_stone_here", "_law_blades", "_law_taking", "_law_way"] (spGroundL K) := by
  refine T.F_L_ground.ok sc_L_ground (fun vs H Q E h => ?_) (fun cdv A outer s H vs Q E hr h => ⟨_, PSs.nox (pss_cons (ps_if (PW.pt (pw_and (pt_cmpR op_eq (pv 3) pe_int (nomark _)) (pw_and1 (pt_cmpR op_eq (pv 2) pe_int (nomark _))))) (pss_one (ps_ret (pe_methD (pv 0) T.c_Stone T.me_Stone_ground (ok_Stone_ground T) (hr.mono (by decide)) T.b_Stone_ground_2 pass0 (pa_cons (pv 1) pa_nil)))) pss_nil)
  (pss_cons (ps_if (pt_cmpR op_eq (pv 3) pe_int (nomark _)) (pss_one (ps_ret (pe_methND (pv 0) T.c_Stone T.me_Stone_ground (ok_Stone_ground T) (hr.mono (by decide)) T.b_Stone_ground_2_wear pass0 (pa_cons (pv 1) pa_nil) (pk_cons (pv 2) pk_nil)))) pss_nil)
  (pss_one (ps_ret (pe_methD (pv 0) T.c_Stone T.me_Stone_ground (ok_Stone_ground T) (hr.mono (by decide)) T.b_Stone_ground_3 pass0 (pa_cons (pv 1) (pa_cons (pv 2) pa_nil))))))), ?_⟩)
  · obtain ⟨p, b, z, l, t, y, rfl, _⟩ := h
    rfl
  · obtain ⟨p, b, z, l, t, y, rfl, s, h0, h1, k⟩ := h
    have s := s
    obtain ⟨dx, hp⟩ := s
    show (_ : TS) (_ : Ends) [some _, some _, some _, some _] _
    try dsimp only [cxOf]
    tm_at "n"
    refine n_iteI (fun hy => ?_) (fun hy => ?_)
    · tm_at "n"
      refine n_iteI (fun ht => ?_) (fun ht => ?_)
      · subst ht
        tm_at "n"
        exact k _ (by assumption) (by assumption)
      · tm_at "N"
        exact k _ (by assumption) (by assumption)
    · tm_at "N"
      refine n_iteI (fun ht => ?_) (fun ht => ?_)
      · tm_at "n"
        exact k _ (by assumption) (by assumption)
      · tm_at "n"
        exact k _ (by assumption) (by assumption)
def spStands (K : PySem.W.Frag) : Sp := fun vs H Q _ => ∃ (q p : Addr) (z lo : Int), vs = [.ref q] ∧ H q = some (.lst [.ref p, .int z, .int lo]) ∧ StoneAt K H p z lo ∧ lo ≤ z ∧ z - lo < 2 ^ 62 ∧ ∀ H', KeepBut [] H H' → Q (.bl true) H'
theorem sc_L_stands : FnScope ["_law_one", "_law_stone_here", "_law_size", "_law_lowest", "_law_turn"] ["_law_one"] (defScope s_L_stands) := ⟨rfl, rfl, rfl, by decide +kernel, rfl, by decide +kernel, by decide +kernel⟩
theorem ok_L_stands (T : Tx K mg) : FnOk P w K mg base CX0 5 (He.fAd K ("_law_stands", none)) T.fd_L_stands ["_law_one"] (spStands K) := by
  refine T.F_L_stands.ok sc_L_stands (fun vs H Q E h => ?_) (fun cdv A outer s H vs Q E hr h => ⟨_, PSs.nox (pss_cons (ps_asg (pv 0) (pg_unl rfl (pgs_cons (pg_name (i := 1) sc_L_stands.nd rfl (.inl rfl)) (pgs_cons (pg_name (i := 2) sc_L_stands.nd rfl (.inl rfl)) (pgs_cons (pg_name (i := 3) sc_L_stands.nd rfl (.inl rfl)) pgs_nil)))))
  (pss_cons (ps_for (PassesOwn.never) rfl (pi_range1 rfl T.f_range (pa_cons pe_int pa_nil)) (pg_name (i := 4) sc_L_stands.nd rfl (.inl rfl)) (pss_cons (ps_if (PW.pt (pw_or (pt_not (pt_val (pe_callD (ok_L_whole T) (hr.mono (by decide)) rfl T.g__law_whole T.k_L_whole T.b_L_whole pass0 (pa_cons (pe_methD0 (pv 1) T.c_Stone T.me_Stone_left (ok_Stone_left T) (hr.mono (by decide)) T.b_Stone_left pass0) pa_nil)))) (pw_or (pt_cmpR op_ne (pe_methD0 (pv 1) T.c_Stone T.me_Stone_left (ok_Stone_left T) (hr.mono (by decide)) T.b_Stone_left pass0) (pv 2) (nomark _)) (pw_or1 (pt_cmpR op_ne (pe_callB (call_lenO T.me_Stone_len.at_ T.me_Stone_len.fn (ok_Stone_len T) (hr.mono (by decide)) T.b_Stone_len pass0) (by rfl) T.f_len (by decide +kernel) (pa_cons (pv 1) pa_nil)) (pe_op op_sub (pv 2) (pv 3)) (nomark _)))))) (pss_one (ps_ret pe_bl)) pss_nil)
  (pss_one (ps_if (pt_cmpR op_ne (pe_callTy (call_boolO T.n_Stone___bool__ T.me_Stone_len.at_ T.me_Stone_len.fn (ok_Stone_len T) (hr.mono (by decide)) T.b_Stone_len pass0) (by rfl) T.f_bool (by decide +kernel) (pa_cons (pv 1) pa_nil)) (pe_cmpR op_gt (pv 2) (pv 3) (nomark _)) (nomark _)) (pss_one (ps_ret pe_bl)) pss_nil))))
  (pss_one (ps_ret pe_bl)))), ?_⟩)
  · obtain ⟨q, p, z, lo, rfl, _⟩ := h
    rfl
  · obtain ⟨q, p, z, lo, rfl, hq, st, h0, h1, k⟩ := h
    show (_ : TS) (_ : Ends) [some _, none, none, none, none] _
    try dsimp only [cxOf]
    tm_at "n"
    refine for_range (fun i σ H' => ∃ v : Option V, σ = [some (.ref q), some (.ref p), some (.int z), some (.int lo), v] ∧ KeepBut [] H H') ⟨none, rfl, .refl⟩ ?_ ?_
    · rintro i σ H1 _ ⟨v, rfl, kk⟩
      have st1 := st.keep kk (by simp)
      have st2 := st1
      obtain ⟨dx, hp⟩ := st2
      tm_at "N"
      refine n_iteF ?_ ?_
      · by_cases hl : lo < z
        · simp [hl]; omega
        · simp [hl]; omega
      · tm_at "n"
        exact ⟨_, rfl, by tm_at "kp"⟩
    · rintro σ H1 ⟨v, rfl, kk⟩
      tm_at "n"
      exact k _ kk
def spDeed : Sp := fun vs H Q _ => ∃ (a l q : Addr) (x : V) (z lo : Int), vs = [.ref a, .ref q] ∧ Deck H a l ∧ H q = some (.lst [x, .int z, .int lo]) ∧ q ≠ l ∧ 0 ≤ lo ∧ lo ≤ z ∧ z ≤ 10 ^ 9 ∧
  ∀ r b t H', H' r = some (.tup [.int b, .int t]) → H r = none → Deck H' a l → KeepBut [a, l] H H' → 0 ≤ b → b ≤ 10 ^ 6 → 1 ≤ t → t ≤ 10 ^ 9 → Q (.ref r) H'
theorem sc_L_deed : FnScope ["_law_deck_here", "_law_one", "_law_few", "_law_way", "_law_rest", "_law_blades", "_law_some", "_law_taking"] ["_law_deck_here", "_law_one"] (defScope s_L_deed) := ⟨rfl, rfl, rfl, by decide +kernel, rfl, by decide +kernel, by decide +kernel⟩
theorem ok_L_deed (T : Tx K mg) : FnOk P w K mg base CX0 2 (He.fAd K ("_law_deed", none)) T.fd_L_deed ["_law_deck_here", "_law_one"] (spDeed) := by
  refine T.F_L_deed.ok sc_L_deed (fun vs H Q E h => ?_) (fun cdv A outer s H vs Q E hr h => ⟨_, PSs.nox (pss_cons (ps_set (i := 2) sc_L_deed.nd rfl (.inl rfl) (pe_callD (ok_L_draw T) (hr.mono (by decide)) rfl T.g__law_draw T.k_L_draw T.b_L_draw pass0 (pa_cons (pv 0) (pa_cons pe_int pa_nil))))
  (pss_cons (ps_set (i := 3) sc_L_deed.nd rfl (.inl rfl) (pe_callD (ok_L_draw T) (hr.mono (by decide)) rfl T.g__law_draw T.k_L_draw T.b_L_draw pass0 (pa_cons (pv 0) (pa_cons pe_int pa_nil))))
  (pss_cons (ps_set (i := 4) sc_L_deed.nd rfl (.inl rfl) (pe_op op_sub (pe_ix ix_list (pv 1) pe_int (fun _ _ => rfl)) (pe_ix ix_list (pv 1) pe_int (fun _ _ => rfl))))
  (pss_cons (ps_set (i := 5) sc_L_deed.nd rfl (.inl rfl) (pe_ix ix_list (pe_lst (pa_cons (pe_callD (ok_L_draw T) (hr.mono (by decide)) rfl T.g__law_draw T.k_L_draw T.b_L_draw pass0 (pa_cons (pv 0) (pa_cons pe_int pa_nil))) (pa_cons (pe_op op_sub (pe_op op_pow pe_int pe_int) (pe_callD (ok_L_draw T) (hr.mono (by decide)) rfl T.g__law_draw T.k_L_draw T.b_L_draw pass0 (pa_cons (pv 0) (pa_cons pe_int pa_nil)))) (pa_cons (pe_callD (ok_L_draw T) (hr.mono (by decide)) rfl T.g__law_draw T.k_L_draw T.b_L_draw pass0 (pa_cons (pv 0) (pa_cons pe_int pa_nil))) (pa_cons pe_int pa_nil))))) (pv 2) (fun _ _ => rfl)))
  (pss_cons (ps_set (i := 6) sc_L_deed.nd rfl (.inl rfl) (pe_lst (pa_cons (pe_callB (cb_max2 rfl) (by rfl) T.f_max (by decide +kernel) (pa_cons pe_int (pa_cons (pv 4) pa_nil))) (pa_cons (pe_op op_add (pv 4) pe_int) (pa_cons (pe_op op_add pe_int (pe_callD (ok_L_draw T) (hr.mono (by decide)) rfl T.g__law_draw T.k_L_draw T.b_L_draw pass0 (pa_cons (pv 0) (pa_cons (pe_op op_pow pe_int pe_int) pa_nil)))) (pa_cons (pe_callB (cb_max2 rfl) (by rfl) T.f_max (by decide +kernel) (pa_cons pe_int (pa_cons (pe_op op_fdivW (pv 4) pe_int) pa_nil))) (pa_cons (pe_op op_add pe_int (pe_callD (ok_L_draw T) (hr.mono (by decide)) rfl T.g__law_draw T.k_L_draw T.b_L_draw pass0 (pa_cons (pv 0) (pa_cons pe_int pa_nil)))) pa_nil)))))))
  (pss_cons (ps_set (i := 7) sc_L_deed.nd rfl (.inl rfl) (pe_ix ix_list (pe_op op_cat (pv 6) (pe_lst (pa_cons (pe_callB (cb_max2 rfl) (by rfl) T.f_max (by decide +kernel) (pa_cons pe_int (pa_cons (pe_op op_fdivW (pv 4) pe_int) pa_nil))) (pa_cons (pe_callB (cb_max2 rfl) (by rfl) T.f_max (by decide +kernel) (pa_cons pe_int (pa_cons (pe_op op_fdivW (pv 4) pe_int) pa_nil))) pa_nil)))) (pe_callB (cb_max2 rfl) (by rfl) T.f_max (by decide +kernel) (pa_cons pe_int (pa_cons (pe_op op_sub (pv 3) pe_int) pa_nil))) (fun _ _ => rfl)))
  (pss_one (ps_ret (pe_tup (pa_cons (pv 5) (pa_cons (pe_callB (cb_min2 rfl) (by rfl) T.f_min (by decide +kernel) (pa_cons (pe_op op_pow pe_int pe_int) (pa_cons (pe_ix ix_list (pe_lst (pa_cons pe_int (pa_cons (pv 7) pa_nil))) (pe_callTy cb_int (by rfl) T.f_int (by decide +kernel) (pa_cons (pe_cmpR op_gt (pv 3) pe_int (nomark _)) pa_nil)) (fun _ _ => rfl)) pa_nil))) pa_nil))))))))))), ?_⟩)
  · obtain ⟨a, l, q, x, z, lo, rfl, _⟩ := h
    rfl
  · obtain ⟨a, l, q, x, z, lo, rfl, D, hq, nq, l0, l1, z1, k⟩ := h
    have nqa : q ≠ a := by
      obtain ⟨_, s, n, ns, ha, _⟩ := D
      exact ne_of hq ha (by intro e; cases e)
    show (_ : TS) (_ : Ends) [some _, some _, none, none, none, none, none, none] _
    try dsimp only [cxOf]
    tm_at "N"
    refine n_ixB 0 (10 ^ 6) (by tm_at "sq") (by simp only [bnd_cons, bnd_nil, and_true]; omega) (by assumption) (by simp; omega) (fun b b0 b1 => ?_)
    tm_at "N"
    refine n_ixB 1 (10 ^ 9 + 1) (by tm_at "sq") (by simp only [bnd_cons, bnd_nil, and_true, List.cons_append, List.nil_append]; omega) (by omega) (by simp; omega) (fun t t0 t1 => ?_)
    tm_at "N"
    refine n_ixB 1 (10 ^ 9 + 1) (by tm_at "sq") (by simp only [bnd_cons, bnd_nil, and_true, List.cons_append, List.nil_append]; omega) (by split <;> omega) (by simp only [List.length]; split <;> omega) (fun u u0 u1 => ?_)
    tm_at "N"
    refine k _ _ _ _ (by tm_at "hp") (by tm_at "fe") (by tm_at "dk") (by tm_at "kp") (by omega) (by omega) (by omega) (by omega)
theorem n_deed {vs : List V} {H : Hp} {Q : VK} {E : XK} {a l q : Addr} {x : V} {z lo : Int} (e : vs = [.ref a, .ref q]) (D : Deck H a l) (hq : H q = some (.lst [x, .int z, .int lo])) (n : q ≠ l) (l0 : 0 ≤ lo) (l1 : lo ≤ z) (z1 : z ≤ 10 ^ 9)
    (k : ∀ r b t H', H' r = some (.tup [.int b, .int t]) → H r = none → Deck H' a l → KeepBut [a, l] H H' → 0 ≤ b → b ≤ 10 ^ 6 → 1 ≤ t → t ≤ 10 ^ 9 → Q (.ref r) H') : spDeed vs H Q E := ⟨a, l, q, x, z, lo, e, D, hq, n, l0, l1, z1, k⟩
theorem n_groundL {vs : List V} {H : Hp} {Q : VK} {E : XK} {p : Addr} {b z l t y : Int} (e : vs = [.ref p, .int b, .int t, .int y]) (s : StoneAt K H p z l) (h0 : 0 < t) (h1 : t < 2 ^ 62)
    (k : ∀ H', KeepBut [p] H H' → StoneAt K H' p (z - grind b z l t * t) l → Q (.int (grind b z l t)) H') : spGroundL K vs H Q E := ⟨p, b, z, l, t, y, e, s, h0, h1, k⟩
theorem n_stands {vs : List V} {H : Hp} {Q : VK} {E : XK} {q p : Addr} {z lo : Int} (e : vs = [.ref q]) (h : H q = some (.lst [.ref p, .int z, .int lo])) (s : StoneAt K H p z lo) (h0 : lo ≤ z) (h1 : z - lo < 2 ^ 62) (k : ∀ H', KeepBut [] H H' → Q (.bl true) H') : spStands K vs H Q E :=
  ⟨q, p, z, lo, e, h, s, h0, h1, k⟩
theorem grind_facts {b z l t : Int} (h : l ≤ z) (ht : 1 ≤ t) (hb : 0 ≤ b) : 0 ≤ grind b z l t ∧ grind b z l t ≤ b ∧ l ≤ z - grind b z l t * t ∧ z - grind b z l t * t ≤ z ∧ (grind b z l t = b ∨ z - grind b z l t * t - t < l) := by
  unfold grind
  have h1 := Int.mul_ediv_add_emod (z - l) t
  have h2 := Int.emod_nonneg (z - l) (show t ≠ 0 by omega)
  have h3 := Int.emod_lt_of_pos (z - l) (show 0 < t by omega)
  have h4 : 0 ≤ (z - l) / t := Int.ediv_nonneg (by omega) (by omega)
  split
  · have h5 : (z - l) / t * t = t * ((z - l) / t) := Int.mul_comm _ _
    have h6 : 0 ≤ t * ((z - l) / t) := Int.mul_nonneg (by omega) h4
    refine ⟨h4, by omega, by omega, by omega, .inr (by omega)⟩
  · have h5 : b * t ≤ (z - l) / t * t := Int.mul_le_mul_of_nonneg_right (by omega) (by omega)
    have h6 : (z - l) / t * t = t * ((z - l) / t) := Int.mul_comm _ _
    have h7 : 0 ≤ b * t := Int.mul_nonneg hb (by omega)
    refine ⟨hb, by omega, by omega, by omega, .inl rfl⟩
theorem Deck.set {H : Hp} {a l q : Addr} {o : HO} (D : Deck H a l) (n1 : a ≠ q) (n2 : l ≠ q) : Deck (upd H q o) a l := D.keep (M := [q]) (KeepBut.refl.mut (.inl (by simp))) (nm1 n1) (nm1 n2)
theorem Deck.keepP {H H' : Hp} {a l p : Addr} {z lo : Int} (D : Deck H a l) (s : StoneAt K H p z lo) (k : KeepBut [p] H H') : Deck H' a l := by
  obtain ⟨dx, h⟩ := s
  obtain ⟨h1, h2⟩ := D.nd h (by intro _ q; cases q) (by intro _ q; cases q)
  exact D.keep k (nm1 h1.symm) (nm1 h2.symm)
theorem StoneAt.neL {H : Hp} {q p : Addr} {z lo : Int} {xs : List V} (s : StoneAt K H p z lo) (h : H q = some (.lst xs)) : p ≠ q := by
  obtain ⟨dx, h'⟩ := s
  exact ne_of h' h (by intro e; cases e)
theorem StoneAt.set {H : Hp} {q p : Addr} {z lo : Int} {o : HO} {xs : List V} (s : StoneAt K H p z lo) (h : H q = some (.lst xs)) : StoneAt K (upd H q o) p z lo := s.keep (M := [q]) (KeepBut.refl.mut (.inl (by simp))) (nm1 (s.neL h))
local macro_rules | `(tactic| tm_at "n1") => `(tactic| first
  | ((with_reducible refine' n_deed ?he ?hd ?hq ?hn ?h0 ?h1 ?h2 (fun r b t H' hr nr D' k' b0 b1 t0 t1 => ?_)); (case he => exact rfl); (case hd => tm_at "dk"); (case hq => tm_at "hp"); (case hn => assumption); (case h0 => omega); (case h1 => omega); (case h2 => omega))
  | ((with_reducible refine' n_groundL ?he ?hd ?h0 ?h1 (fun H' k' s' => ?_)); (case he => exact rfl); (case hd => tm_at "st"); (case h0 => omega); (case h1 => omega))
  | ((with_reducible refine' n_stands ?he ?hd ?hs ?h0 ?h1 (fun H' k' => ?_)); (case he => exact rfl); (case hd => tm_at "hp"); (case hs => tm_at "st"); (case h0 => omega); (case h1 => omega)))
def spDone (K : PySem.W.Frag) : Sp := fun vs H Q _ => ∃ (a l q p : Addr) (z lo : Int), vs = [.ref a, .ref q] ∧ Deck H a l ∧ H q = some (.lst [.ref p, .int z, .int lo]) ∧ StoneAt K H p z lo ∧ q ≠ l ∧ 0 ≤ lo ∧ lo ≤ z ∧ z ≤ 10 ^ 9 ∧
  ∀ z' H', H' q = some (.lst [.ref p, .int z', .int lo]) → Deck H' a l → KeepBut [a, l, q, p] H H' → StoneAt K H' p z' lo → lo ≤ z' → z' ≤ z → Q (.bl true) H'
theorem sc_L_done : FnScope ["_law_deck_here", "_law_one", "_law_calling", "_law_blades", "_law_taking", "_law_many"] ["_law_deck_here", "_law_one"] (defScope s_L_done) := ⟨rfl, rfl, rfl, by decide +kernel, rfl, by decide +kernel, by decide +kernel⟩
theorem ok_L_done (T : Tx K mg) : FnOk P w K mg base CX0 3 (He.fAd K ("_law_done", none)) T.fd_L_done ["_law_deck_here", "_law_one"] (spDone K) := by
  refine T.F_L_done.ok sc_L_done (fun vs H Q E h => ?_) (fun cdv A outer s H vs Q E hr h => ⟨_, PSs.nox (pss_cons (ps_set (i := 2) sc_L_done.nd rfl (.inl rfl) (pe_callD (ok_L_draw T) (hr.mono (by decide)) rfl T.g__law_draw T.k_L_draw T.b_L_draw pass0 (pa_cons (pv 0) (pa_cons pe_int pa_nil))))
  (pss_cons (ps_asg (pe_callD (ok_L_deed T) (hr.mono (by decide)) rfl T.g__law_deed T.k_L_deed T.b_L_deed pass0 (pa_cons (pv 0) (pa_cons (pv 1) pa_nil))) (pg_tup rfl (pgs_cons (pg_name (i := 3) sc_L_done.nd rfl (.inl rfl)) (pgs_cons (pg_name (i := 4) sc_L_done.nd rfl (.inl rfl)) pgs_nil))))
  (pss_cons (ps_set (i := 5) sc_L_done.nd rfl (.inl rfl) (pe_callD (ok_L_ground T) (hr.mono (by decide)) rfl T.g__law_ground T.k_L_ground T.b_L_ground pass0 (pa_cons (pe_ix ix_list (pv 1) pe_int (fun _ _ => rfl)) (pa_cons (pv 3) (pa_cons (pv 4) (pa_cons (pv 2) pa_nil))))))
  (pss_cons (ps_if (PW.pt (pw_or (pt_not (pt_val (pe_callD (ok_L_whole T) (hr.mono (by decide)) rfl T.g__law_whole T.k_L_whole T.b_L_whole pass0 (pa_cons (pv 5) pa_nil)))) (pw_or1 (pt_not (pt_chain op_le op_le pe_int (pv 5) (pv 3)))))) (pss_one (ps_ret pe_bl)) pss_nil)
  (pss_cons (ps_asg (pe_op op_sub (pe_ix ix_list (pv 1) pe_int (fun _ _ => rfl)) (pe_op ob_mul (pv 5) (pv 4))) (pg_sub (pv 1) pe_int set_list))
  (pss_one (ps_ret (pe_and (pe_cmpR op_ge (pe_ix ix_list (pv 1) pe_int (fun _ _ => rfl)) (pe_ix ix_list (pv 1) pe_int (fun _ _ => rfl)) (nomark _)) (pe_one (pe_or (pe_cmpR op_eq (pv 5) (pv 3) (nomark _)) (pe_one (pe_cmpR op_lt (pe_op op_sub (pe_ix ix_list (pv 1) pe_int (fun _ _ => rfl)) (pv 4)) (pe_ix ix_list (pv 1) pe_int (fun _ _ => rfl)) (nomark _))))))))))))), ?_⟩)
  · obtain ⟨a, l, q, p, z, lo, rfl, _⟩ := h
    rfl
  · obtain ⟨a, l, q, p, z, lo, rfl, D, hq, st, nq, l0, l1, z1, k⟩ := h
    have nqa : q ≠ a := by
      obtain ⟨_, s, n, ns, ha, _⟩ := D
      exact ne_of hq ha (by intro e; cases e)
    show (_ : TS) (_ : Ends) [some _, some _, none, none, none, none] _
    try dsimp only [cxOf]
    tm_at "N"
    rename_i d H1 d0 d1 D1 k1 r b t H2 hr nr D2 k2 b0 b1 t0 t1 H3 k3 st3
    obtain ⟨g0, g1, g2, g3, g4⟩ := grind_facts (z := z) (l := lo) (t := t) (b := b) l1 t0 b0
    have st1 := st.draw k1 D
    have st2 := st1.draw k2 D1
    have hq1 : H1 q = some (.lst [.ref p, .int z, .int lo]) := k1 _ _ hq (nm2 nqa nq)
    have hq2 : H2 q = some (.lst [.ref p, .int z, .int lo]) := k2 _ _ hq1 (nm2 nqa nq)
    have hq3 : H3 q = some (.lst [.ref p, .int z, .int lo]) := k3 _ _ hq2 (nm1 (st2.neL hq2).symm)
    have D3 : Deck H3 a l := D2.keepP st2 k3
    have hm : IntMulOk (grind b z lo t) t := mulR (by omega) (by omega)
    tm_at "N"
    have fin : Q (.bl true) (upd H3 q (.lst [.ref p, .int (z - grind b z lo t * t), .int lo])) := k _ _ upd_same (D3.set nqa.symm nq.symm) (by tm_at "kp") (st3.set hq3) g2 g3
    refine n_iteI (fun e => ?_) (fun e => ?_)
    · exact fin
    · tm_at "N"
      rw [show decide (z - grind b z lo t * t - t < lo) = true from decide_eq_true (by omega)]
      exact fin
theorem n_done {vs : List V} {H : Hp} {Q : VK} {E : XK} {a l q p : Addr} {z lo : Int} (e : vs = [.ref a, .ref q]) (D : Deck H a l) (hq : H q = some (.lst [.ref p, .int z, .int lo])) (st : StoneAt K H p z lo) (n : q ≠ l) (l0 : 0 ≤ lo) (l1 : lo ≤ z) (z1 : z ≤ 10 ^ 9)
    (k : ∀ z' H', H' q = some (.lst [.ref p, .int z', .int lo]) → Deck H' a l → KeepBut [a, l, q, p] H H' → StoneAt K H' p z' lo → lo ≤ z' → z' ≤ z → Q (.bl true) H') : spDone K vs H Q E := ⟨a, l, q, p, z, lo, e, D, hq, st, n, l0, l1, z1, k⟩
theorem n_deck {vs : List V} {H : Hp} {Q : VK} {E : XK} {b : Addr} {ms : List Int} (e : vs = [.ref b]) (h : SqL K H b (ms.map V.int)) (hl : ms.length ≤ 63) (k : ∀ a l H', H a = none → H l = none → KeepBut [] H H' → Deck H' a l → Q (.ref a) H') : spDeck K vs H Q E := ⟨b, ms, e, h, hl, k⟩
theorem n_methSt {C : Addr} {m : Str} {H : Hp} {p : Addr} {z lo : Int} {R : Hp → Prop} (hC : C = He.ga K "Stone") (s : StoneAt K H p z lo) (hl : ∀ z lo, (stF z lo).lookup m = none) (q : R H) : methK C m (.ref p) H R := by
  obtain ⟨dx, h⟩ := s
  subst hC
  exact n_methK h (hl z lo) q
theorem n_lenSt {C : Addr} {sp : Sp} {E : XK} {H : Hp} {p : Addr} {z lo : Int} {Q : VK} (hC : C = He.ga K "Stone") (s : StoneAt K H p z lo) (q : sp [.ref p] H (fun v H' => ∃ n : Int, v = .int n ∧ 0 ≤ n ∧ n < 2 ^ 63 ∧ Q (.int n) H') E) : rLenO C sp E [.ref p] H Q := by
  obtain ⟨dx, h⟩ := s
  subst hC
  exact n_lenO h q
theorem n_boolSt {C : Addr} {sp : Sp} {E : XK} {H : Hp} {p : Addr} {z lo : Int} {Q : VK} (hC : C = He.ga K "Stone") (s : StoneAt K H p z lo) (q : sp [.ref p] H (fun v H' => ∃ n : Int, v = .int n ∧ 0 ≤ n ∧ n < 2 ^ 63 ∧ Q (.bl (n != 0)) H') E) : rBoolO C sp E [.ref p] H Q := by
  obtain ⟨dx, h⟩ := s
  subst hC
  exact n_boolO h q
local macro_rules | `(tactic| tm_at "n1") => `(tactic| first
  | ((with_reducible refine' n_methSt ?hC ?hd ?hl ?_); (case hC => exact rfl); (case hd => tm_at "st"); (case hl => exact fun _ _ => rfl))
  | ((with_reducible refine' n_lenSt ?hC ?hd ?_); (case hC => exact rfl); (case hd => tm_at "st"))
  | ((with_reducible refine' n_boolSt ?hC ?hd ?_); (case hC => exact rfl); (case hd => tm_at "st"))
  | ((with_reducible refine' n_deck ?he ?hd ?hl (fun a l H' na nl k' D' => ?_)); (case he => exact rfl); (case hd => tm_at "sq"); (case hl => omega)))
theorem six {H : Hp} {a l q1 p1 q2 p2 x : Addr} {o1 o2 : HO} {z1 l1 z2 l2 : Int} (D : Deck H a l) (h1 : H q1 = some o1) (h2 : H q2 = some o2) (s1 : StoneAt K H p1 z1 l1) (s2 : StoneAt K H p2 z2 l2) (n : H x = none) : x ∉ [a, l, q1, p1, q2, p2] := by
  obtain ⟨n1, n2⟩ := D.ofNew n
  obtain ⟨d1, e1⟩ := s1
  obtain ⟨d2, e2⟩ := s2
  simp only [List.mem_cons, List.not_mem_nil, or_false, not_or]
  exact ⟨n1, n2, (ne_of_none h1 n).symm, (ne_of_none e1 n).symm, (ne_of_none h2 n).symm, (ne_of_none e2 n).symm⟩
theorem other {H : Hp} {a l q p q' p' : Addr} {z o z' o' : Int} {xs ys : List V} (D : Deck H a l) (hq : H q = some (.lst xs)) (st : StoneAt K H p z o) (hq' : H q' = some (.lst ys)) (st' : StoneAt K H p' z' o') (n1 : q' ≠ q) (n2 : p' ≠ p) (n3 : q' ≠ l) : q' ∉ [a, l, q, p] ∧ p' ∉ [a, l, q, p] := by
  have h0 := st'.nd D
  have h1 := st'.neL hq
  have h2 := st.neL hq'
  obtain ⟨_, s, n, ns, ha, _⟩ := D
  have h3 : q' ≠ a := ne_of hq' ha (by intro e; cases e)
  simp only [List.mem_cons, List.not_mem_nil, or_false, not_or] at *
  exact ⟨⟨h3, n3, n1, h2.symm⟩, h0.1, h0.2, h1, n2⟩
def spLaw (K : PySem.W.Frag) : Sp := fun vs H Q _ => ∃ (b : Addr) (ms : List Int), vs = [.ref b] ∧ SqL K H b (ms.map V.int) ∧ ms.length ≤ 63 ∧ ∀ H', Q (.bl true) H'
theorem sc_law : FnScope ["_law_script", "_law_deck_here", "_law_turn", "_law_stones", "_law_fresh", "_law_one", "_law_sizes", "_law_once", "_law_at", "_law_stone_here", "_law_size", "_law_told"] ["_law_script"] (defScope s_law) := ⟨rfl, rfl, rfl, by decide +kernel, rfl, by decide +kernel, by decide +kernel⟩
theorem ok_law (T : Tx K mg) : FnOk P w K mg base CX0 6 (He.fAd K ("law", none)) T.fd_law ["_law_script"] (spLaw K) := by
  refine T.F_law.ok sc_law (fun vs H Q E h => ?_) (fun cdv A outer s H vs Q E hr h => ⟨_, PSs.nox (pss_cons (ps_set (i := 1) sc_law.nd rfl (.inl rfl) (pe_callD (ok_L_deck T) (hr.mono (by decide)) rfl T.g__law_deck T.k_L_deck T.b_L_deck pass0 (pa_cons (pv 0) pa_nil)))
  (pss_cons (ps_for (PassesOwn.never) rfl (pi_range1 rfl T.f_range (pa_cons pe_int pa_nil)) (pg_name (i := 2) sc_law.nd rfl (.inl rfl)) (pss_cons (ps_set (i := 3) sc_law.nd rfl (.inl rfl) (pe_lst (pa_cons (pe_callD (ok_L_stone T) (hr.mono (by decide)) rfl T.g__law_stone T.k_L_stone T.b_L_stone pass0 (pa_cons (pv 1) pa_nil)) (pa_cons (pe_callD (ok_L_stone T) (hr.mono (by decide)) rfl T.g__law_stone T.k_L_stone T.b_L_stone pass0 (pa_cons (pv 1) pa_nil)) pa_nil))))
  (pss_cons (ps_setLc (i := 4) (own := [("_law_one", 5)]) rfl sc_law.nd rfl rfl (sw_true rfl rfl rfl (by decide +kernel)) (pi_list (pv 3)) (blkOk_by (own := [("_law_one", 5)]) (N := ["_law_script", "_law_deck_here", "_law_turn", "_law_stones", "_law_fresh", "_law_one", "_law_sizes", "_law_once", "_law_at", "_law_stone_here", "_law_size", "_law_told"]) (sc := defScope s_law) (by decide +kernel)) (fun _ _ _ _ _ => (pg_name (i := 5) sc_law.nd rfl (.inl rfl))) (fun _ _ _ _ _ => pts_nil) (fun _ _ _ _ _ => (pe_makeD T.m_Stone (ok_Stone_init T) (hr.mono (by decide)) rfl T.g_Stone T.b_Stone_init_3 pass0 (pa_cons (pe_ix (k_ix_list K rfl) (pv 5) pe_int (fun _ _ => rfl)) (pa_cons (pe_ix (k_ix_list K rfl) (pv 5) pe_int (fun _ _ => rfl)) pa_nil)))))
  (pss_cons (ps_setLc (i := 6) (own := [("_law_one", 5)]) rfl sc_law.nd rfl rfl (sw_true rfl rfl rfl (by decide +kernel)) (pi_list (pv 3)) (blkOk_by (own := [("_law_one", 5)]) (N := ["_law_script", "_law_deck_here", "_law_turn", "_law_stones", "_law_fresh", "_law_one", "_law_sizes", "_law_once", "_law_at", "_law_stone_here", "_law_size", "_law_told"]) (sc := defScope s_law) (by decide +kernel)) (fun _ _ _ _ _ => (pg_name (i := 5) sc_law.nd rfl (.inl rfl))) (fun _ _ _ _ _ => pts_nil) (fun _ _ _ _ _ => (pe_ix (k_ix_list K rfl) (pv 5) pe_int (fun _ _ => rfl))))
  (pss_cons (ps_for (PassesOwn.never) rfl (pi_range1 rfl T.f_range (pa_cons pe_int pa_nil)) (pg_name (i := 7) sc_law.nd rfl (.inl rfl)) (pss_cons (ps_set (i := 8) sc_law.nd rfl (.inl rfl) (pe_callD (ok_L_draw T) (hr.mono (by decide)) rfl T.g__law_draw T.k_L_draw T.b_L_draw pass0 (pa_cons (pv 1) (pa_cons pe_int pa_nil))))
  (pss_one (ps_if (PW.pt (pw_or (pt_not (pt_val (pe_callD (ok_L_done T) (hr.mono (by decide)) rfl T.g__law_done T.k_L_done T.b_L_done pass0 (pa_cons (pv 1) (pa_cons (pe_ix ix_list (pv 3) (pv 8) (fun _ _ => rfl)) pa_nil))))) (pw_or (pt_not (pt_val (pe_callD (ok_L_stands T) (hr.mono (by decide)) rfl T.g__law_stands T.k_L_stands T.b_L_stands pass0 (pa_cons (pe_ix ix_list (pv 3) pe_int (fun _ _ => rfl)) pa_nil)))) (pw_or1 (pt_not (pt_val (pe_callD (ok_L_stands T) (hr.mono (by decide)) rfl T.g__law_stands T.k_L_stands T.b_L_stands pass0 (pa_cons (pe_ix ix_list (pv 3) pe_int (fun _ _ => rfl)) pa_nil)))))))) (pss_one (ps_ret pe_bl)) pss_nil))))
  (pss_one (ps_for (PassesOwn.never) rfl (pi_zip3 false false false (by rfl) T.f_zip (pa_cons (pv 4) (pa_cons (pv 6) (pa_cons (pv 3) pa_nil)))) (pg_tup rfl (pgs_cons (pg_name (i := 9) sc_law.nd rfl (.inl rfl)) (pgs_cons (pg_name (i := 10) sc_law.nd rfl (.inl rfl)) (pgs_cons (pg_name (i := 5) sc_law.nd rfl (.inl rfl)) pgs_nil)))) (pss_cons (ps_if (PW.pt (pw_or (pt_cmpR op_ne (pe_methD0 (pv 9) T.c_Stone T.me_Stone_left (ok_Stone_left T) (hr.mono (by decide)) T.b_Stone_left pass0) (pv 10) (nomark _)) (pw_or1 (pt_cmpR op_ne (pe_callB (call_lenO T.me_Stone_len.at_ T.me_Stone_len.fn (ok_Stone_len T) (hr.mono (by decide)) T.b_Stone_len pass0) (by rfl) T.f_len (by decide +kernel) (pa_cons (pv 9) pa_nil)) (pe_op op_sub (pv 10) (pe_ix ix_list (pv 5) pe_int (fun _ _ => rfl))) (nomark _))))) (pss_one (ps_ret pe_bl)) pss_nil)
  (pss_one (ps_if (PW.pt (pw_or (pt_cmpR op_ne (pe_methD0 (pe_makeD T.m_Stone (ok_Stone_init T) (hr.mono (by decide)) rfl T.g_Stone T.b_Stone_init_2 pass0 (pa_cons (pv 10) pa_nil)) T.c_Stone T.me_Stone_left (ok_Stone_left T) (hr.mono (by decide)) T.b_Stone_left pass0) (pv 10) (nomark _)) (pw_or1 (pt_cmpR op_ne (pe_callB (call_lenO T.me_Stone_len.at_ T.me_Stone_len.fn (ok_Stone_len T) (hr.mono (by decide)) T.b_Stone_len pass0) (by rfl) T.f_len (by decide +kernel) (pa_cons (pe_makeD T.m_Stone (ok_Stone_init T) (hr.mono (by decide)) rfl T.g_Stone T.b_Stone_init_2 pass0 (pa_cons (pv 10) pa_nil)) pa_nil)) (pv 10) (nomark _))))) (pss_one (ps_ret pe_bl)) pss_nil))))))))))
  (pss_cons (ps_set (i := 9) sc_law.nd rfl (.inl rfl) (pe_makeND T.m_Stone (ok_Stone_init T) (hr.mono (by decide)) rfl T.g_Stone T.b_Stone_init_2_least pass0 (pa_cons pe_int pa_nil) (pk_cons pe_int pk_nil)))
  (pss_cons (ps_set (i := 11) sc_law.nd rfl (.inl rfl) (pe_lst (pa_cons (pe_methD (pv 9) T.c_Stone T.me_Stone_ground (ok_Stone_ground T) (hr.mono (by decide)) T.b_Stone_ground_2 pass0 (pa_cons pe_int pa_nil)) (pa_cons (pe_methND (pv 9) T.c_Stone T.me_Stone_ground (ok_Stone_ground T) (hr.mono (by decide)) T.b_Stone_ground_2_wear pass0 (pa_cons pe_int pa_nil) (pk_cons pe_int pk_nil)) (pa_cons (pe_callB (call_lenO T.me_Stone_len.at_ T.me_Stone_len.fn (ok_Stone_len T) (hr.mono (by decide)) T.b_Stone_len pass0) (by rfl) T.f_len (by decide +kernel) (pa_cons (pv 9) pa_nil)) (pa_cons (pe_methD (pv 9) T.c_Stone T.me_Stone_ground (ok_Stone_ground T) (hr.mono (by decide)) T.b_Stone_ground_2 pass0 (pa_cons pe_int pa_nil)) (pa_cons (pe_methD (pv 9) T.c_Stone T.me_Stone_ground (ok_Stone_ground T) (hr.mono (by decide)) T.b_Stone_ground_2 pass0 (pa_cons pe_int pa_nil)) (pa_cons (pe_methD0 (pv 9) T.c_Stone T.me_Stone_left (ok_Stone_left T) (hr.mono (by decide)) T.b_Stone_left pass0) pa_nil))))))))
  (pss_one (ps_ret (pe_and (pe_cmpR (op_eqD hr.units) (pv 11) (pe_lst (pa_cons pe_int (pa_cons pe_int (pa_cons pe_int (pa_cons pe_int (pa_cons pe_int (pa_cons pe_int pa_nil))))))) (nomark _)) (pe_and (pe_cmpR op_isBl (pe_callTy (call_boolO T.n_Stone___bool__ T.me_Stone_len.at_ T.me_Stone_len.fn (ok_Stone_len T) (hr.mono (by decide)) T.b_Stone_len pass0) (by rfl) T.f_bool (by decide +kernel) (pa_cons (pv 9) pa_nil)) pe_bl (nomark _)) (pe_one (pe_cmpR op_eq (pe_methD (pv 9) T.c_Stone T.me_Stone_ground (ok_Stone_ground T) (hr.mono (by decide)) T.b_Stone_ground_3 pass0 (pa_cons pe_int (pa_cons (pe_op op_pow pe_int pe_int) pa_nil))) pe_int (nomark _))))))))))), ?_⟩)
  · obtain ⟨b, ms, rfl, _⟩ := h
    rfl
  · obtain ⟨b, ms, rfl, hb, hm, k⟩ := h
    show (_ : TS) (_ : Ends) [some _, none, none, none, none, none, none, none, none, none, none, none] _
    try dsimp only [cxOf]
    tm_at "N"
    rename_i a l H1 na nl k1 D1
    refine for_range (fun i σ H' => Deck H' a l ∧ ∃ x1 x2 x3 x4 x5 x6 x7 x8 x9 x10 : Option V, σ = [some (.ref b), some (.ref a), x1, x2, x3, x4, x5, x6, x7, x8, x9, x10]) ?_ ?_ ?_
    · exact ⟨D1, _, _, _, _, _, _, _, _, _, _, rfl⟩
    · rintro i σ H2 _ ⟨D2, x1, x2, x3, x4, x5, x6, x7, x8, x9, x10, rfl⟩
      tm_at "N"
      rename_i q1 p1 z1 o1 H3 hq1 nq1 np1 D3 k3 s1 o10 o11 z11 q2 p2 z2 o2 H4 hq2 nq2 np2 D4 k4 s2 o20 o21 z21 L nL
      have hq1' : H4 q1 = some (.lst [.ref p1, .int z1, .int o1]) := k4 _ _ hq1 (nm2 (D2.ofNew nq1).1 (D2.ofNew nq1).2)
      intro F nF
      have hL : SqL K (upd (upd H4 L (.lst [.ref q1, .ref q2])) F (.lst [])) L [.ref q1, .ref q2] := SqL.of (look_new upd_same nF)
      refine lc_list (K := K) (a := L) (xs := [.ref q1, .ref q2]) (fun i H' => KeepBut [F] (upd H4 L (.lst [.ref q1, .ref q2])) H' ∧ ∃ fs, H' F = some (.lst fs) ∧ fs.length = i ∧ (∀ f, fs[0]? = some f → ∃ x, f = .ref x ∧ StoneAt K H' x z1 o1 ∧ upd H4 L (.lst [.ref q1, .ref q2]) x = none) ∧
        (∀ f, fs[1]? = some f → ∃ x, f = .ref x ∧ StoneAt K H' x z2 o2 ∧ upd H4 L (.lst [.ref q1, .ref q2]) x = none)) ?_ ?_ ?_ ?_
      · refine ⟨KeepBut.refl.mutT (by simp), [], upd_same, rfl, by intro f h; simp at h, by intro f h; simp at h⟩
      · rintro i H' _ ⟨kk, _⟩
        exact sqL_keep kk (SqL.of upd_same) (nm1 (ne_of_none upd_same nF))
      · rintro i x H' hx ⟨kk, fs, hF, hl, r1, r2⟩
        have hq1n := kk _ _ (look_new hq1' nL) (nm1 (ne_of_none (look_new hq1' nL) nF))
        have hq2n := kk _ _ (look_new hq2 nL) (nm1 (ne_of_none (look_new hq2 nL) nF))
        match i, hx with
        | 0, hx =>
          obtain rfl := Option.some.inj hx
          obtain rfl := List.length_eq_zero_iff.mp hl
          tm_at "N"
          rename_i f H5 nf k5 s5
          refine n_acc (acc := []) (k5 _ _ hF (by simp)) (by decide) ⟨(kk.call k5 (by simp)).mutT (by simp), _, upd_same, rfl, ?_, ?_⟩
          · intro g e
            obtain rfl := Option.some.inj e
            exact ⟨f, rfl, s5.set (k5 _ _ hF (by simp)), kk.back nf (nm1 (ne_of_none hF nf).symm)⟩
          · intro g e
            simp at e
        | 1, hx =>
          obtain rfl := Option.some.inj hx
          obtain ⟨f0, rfl⟩ := List.length_eq_one_iff.mp hl
          obtain ⟨x0, rfl, s0, n0⟩ := r1 _ rfl
          tm_at "N"
          rename_i f H5 nf k5 s5
          refine n_acc (acc := [.ref x0]) (k5 _ _ hF (by simp)) (by simp) ⟨(kk.call k5 (by simp)).mutT (by simp), _, upd_same, rfl, ?_, ?_⟩
          · intro g e
            obtain rfl := Option.some.inj e
            exact ⟨x0, rfl, (s0.keep k5 (by simp)).set (k5 _ _ hF (by simp)), n0⟩
          · intro g e
            obtain rfl := Option.some.inj e
            exact ⟨f, rfl, s5.set (k5 _ _ hF (by simp)), kk.back nf (nm1 (ne_of_none hF nf).symm)⟩
      · rintro H5 ⟨kF, fs, hF, hl, r1, r2⟩
        match fs, hl with
        | [u, v], _ =>
          obtain ⟨f1, rfl, t1, n1⟩ := r1 _ rfl
          obtain ⟨f2, rfl, t2, n2⟩ := r2 _ rfl
          have hL5 := kF _ _ (upd_same (H := H4) (a := L) (o := .lst [.ref q1, .ref q2])) (nm1 (ne_of_none upd_same nF))
          have hq15 := kF _ _ (look_new hq1' nL) (nm1 (ne_of_none (look_new hq1' nL) nF))
          have hq25 := kF _ _ (look_new hq2 nL) (nm1 (ne_of_none (look_new hq2 nL) nF))
          tm_at "N"
          intro S nS
          refine lc_list (K := K) (a := L) (xs := [.ref q1, .ref q2]) (fun i H' => KeepBut [S] H5 H' ∧ H' S = some (.lst (([.int z1, .int z2] : List V).take i))) ?_ ?_ ?_ ?_
          · exact ⟨KeepBut.refl.mutT (by simp), upd_same⟩
          · rintro i H' _ ⟨kk, _⟩
            exact sqL_keep kk (SqL.of hL5) (nm1 (ne_of_none hL5 nS))
          · rintro i x H' hx ⟨kk, hS⟩
            have hq1n := kk _ _ hq15 (nm1 (ne_of_none hq15 nS))
            have hq2n := kk _ _ hq25 (nm1 (ne_of_none hq25 nS))
            match i, hx with
            | 0, hx =>
              obtain rfl := Option.some.inj hx
              tm_at "N"
              exact n_acc hS (by simp) ⟨kk.mutT (by simp), upd_same⟩
            | 1, hx =>
              obtain rfl := Option.some.inj hx
              tm_at "N"
              exact n_acc hS (by simp) ⟨kk.mutT (by simp), upd_same⟩
          · rintro H6 ⟨kS, hS⟩
            tm_at "N"
            have nL5 : L ∉ [S] := nm1 (ne_of_none hL5 nS)
            have hL6 := kS _ _ hL5 nL5
            have hq16 := kS _ _ hq15 (nm1 (ne_of_none hq15 nS))
            have hq26 := kS _ _ hq25 (nm1 (ne_of_none hq25 nS))
            have hF6 := kS _ _ hF (nm1 (ne_of_none hF nS))
            have s14 := s1.draw k4 D3
            have D4' : Deck (upd H4 L (.lst [.ref q1, .ref q2])) a l := D4.new nL
            have s14' : StoneAt K (upd H4 L (.lst [.ref q1, .ref q2])) p1 z1 o1 := s14.new nL
            have s24' : StoneAt K (upd H4 L (.lst [.ref q1, .ref q2])) p2 z2 o2 := s2.new nL
            have hq14' : upd H4 L (.lst [.ref q1, .ref q2]) q1 = some (.lst [.ref p1, .int z1, .int o1]) := look_new hq1' nL
            have hq24' : upd H4 L (.lst [.ref q1, .ref q2]) q2 = some (.lst [.ref p2, .int z2, .int o2]) := look_new hq2 nL
            have nS4 : upd H4 L (.lst [.ref q1, .ref q2]) S = none := kF.back nS (nm1 (ne_of_none hF nS).symm)
            have mL : L ∉ [a, l, q1, p1, q2, p2] := six D4 hq1' hq2 s14 s2 nL
            have mF : F ∉ [a, l, q1, p1, q2, p2] := six D4' hq14' hq24' s14' s24' nF
            have mS : S ∉ [a, l, q1, p1, q2, p2] := six D4' hq14' hq24' s14' s24' nS4
            have m1 : f1 ∉ [a, l, q1, p1, q2, p2] := six D4' hq14' hq24' s14' s24' n1
            have m2 : f2 ∉ [a, l, q1, p1, q2, p2] := six D4' hq14' hq24' s14' s24' n2
            have D5 := D4'.keep kF (nm1 (D4'.ofNew nF).1.symm) (nm1 (D4'.ofNew nF).2.symm)
            have D6 := D5.keep kS (nm1 (D5.ofNew nS).1.symm) (nm1 (D5.ofNew nS).2.symm)
            have stk : ∀ {p z o}, StoneAt K (upd H4 L (.lst [.ref q1, .ref q2])) p z o → StoneAt K H6 p z o := fun {p z o} st => by
              obtain ⟨dx, e⟩ := st
              have e5 := kF _ _ e (nm1 (ne_of_none e nF))
              exact ⟨dx, kS _ _ e5 (nm1 (ne_of_none e5 nS))⟩
            have s16 := stk s14'
            have s26 := stk s24'
            have fk : ∀ {p z o}, StoneAt K H5 p z o → StoneAt K H6 p z o := fun {p z o} st => by
              obtain ⟨dx, e⟩ := st
              exact ⟨dx, kS _ _ e (nm1 (ne_of_none e nS))⟩
            have t16 := fk t1
            have t26 := fk t2
            have nqq : q1 ≠ q2 := ne_of_none hq1 nq2
            have npp : p1 ≠ p2 := by
              obtain ⟨dx, e⟩ := s1
              exact ne_of_none e np2
            have nqa1 : q1 ≠ a := (D2.ofNew nq1).1
            have nqa2 : q2 ≠ a := (D3.ofNew nq2).1
            have nl1 : q1 ≠ l := (D2.ofNew nq1).2
            have nl2 : q2 ≠ l := (D3.ofNew nq2).2
            refine for_range (fun j σ H' => KeepBut [a, l, q1, p1, q2, p2] H6 H' ∧ Deck H' a l ∧ ∃ (z1' z2' : Int) (y2 y5 y7 y8 y9 y10 y11 : Option V), σ = [some (.ref b), some (.ref a), y2, some (.ref L), some (.ref F), y5, some (.ref S), y7, y8, y9, y10, y11] ∧
              H' q1 = some (.lst [.ref p1, .int z1', .int o1]) ∧ H' q2 = some (.lst [.ref p2, .int z2', .int o2]) ∧ StoneAt K H' p1 z1' o1 ∧ StoneAt K H' p2 z2' o2 ∧ o1 ≤ z1' ∧ z1' ≤ z1 ∧ o2 ≤ z2' ∧ z2' ≤ z2) ?_ ?_ ?_
            · exact ⟨.refl, D6, z1, z2, _, _, _, _, _, _, _, rfl, hq16, hq26, s16, s26, o11, by omega, o21, by omega⟩
            · rintro j σ H7 _ ⟨k7, D7, z1', z2', y2, y5, y7, y8, y9, y10, y11, rfl, e1, e2, r1, r2, g1, g2, g3, g4⟩
              have hL7 := k7 _ _ hL6 mL
              tm_at "N"
              rename_i d H8 d0 d1 D8 k8
              have hL8 : H8 L = some (.lst [.ref q1, .ref q2]) := by tm_at "hp"
              have e18 : H8 q1 = some (.lst [.ref p1, .int z1', .int o1]) := k8 _ _ e1 (nm2 nqa1 nl1)
              have e28 : H8 q2 = some (.lst [.ref p2, .int z2', .int o2]) := k8 _ _ e2 (nm2 nqa2 nl2)
              have r18 := r1.draw k8 D7
              have r28 := r2.draw k8 D7
              have ob := other D8 e18 r18 e28 r28 nqq.symm npp.symm nl2
              have oa := other D8 e28 r28 e18 r18 nqq npp nl1
              have hd : d = 0 ∨ d = 1 := by omega
              rcases hd with rfl | rfl
              · tm_at "N"
                refine n_done rfl D8 e18 r18 nl1 o10 g1 (by omega) (fun z' H9 hq' D9 k9 st9 a1 a2 => ?_)
                have e29 := k9 _ _ e28 ob.1
                have r29 := r28.keep k9 ob.2
                have hL9 := k9 _ _ hL8 fun h => mL (by simp only [List.mem_cons, List.not_mem_nil, or_false] at h ⊢; rcases h with h | h | h | h <;> simp [h])
                tm_at "N"
                exact ⟨by tm_at "kp", by tm_at "dk", z', z2', _, _, _, _, _, _, _, rfl, by tm_at "hp", by tm_at "hp", by tm_at "st", by tm_at "st", a1, by omega, g3, g4⟩
              · tm_at "N"
                refine n_done rfl D8 e28 r28 nl2 o20 g3 (by omega) (fun z' H9 hq' D9 k9 st9 a1 a2 => ?_)
                have e19 := k9 _ _ e18 oa.1
                have r19 := r18.keep k9 oa.2
                have hL9 := k9 _ _ hL8 fun h => mL (by simp only [List.mem_cons, List.not_mem_nil, or_false] at h ⊢; rcases h with h | h | h | h <;> simp [h])
                tm_at "N"
                exact ⟨by tm_at "kp", by tm_at "dk", z1', z', _, _, _, _, _, _, _, rfl, by tm_at "hp", by tm_at "hp", by tm_at "st", by tm_at "st", g1, g2, a1, by omega⟩
            · rintro σ H7 ⟨k7, D7, z1', z2', y2, y5, y7, y8, y9, y10, y11, rfl, e1, e2, r1, r2, g1, g2, g3, g4⟩
              have hL7 := k7 _ _ hL6 mL
              have hF7 := k7 _ _ hF6 mF
              have hS7 : H7 S = some (.lst [.int z1, .int z2]) := k7 _ _ hS mS
              have t17 := t16.keep k7 m1
              have t27 := t26.keep k7 m2
              tm_at "N"
              refine for_zip3 (K := K) (ta := false) (tb := false) (tc := false) (a := F) (b := S) (c := L) (xs := [.ref f1, .ref f2]) (ys := [.int z1, .int z2]) (zs := [.ref q1, .ref q2]) rfl rfl
                (fun j σ H' => KeepBut [] H7 H' ∧ ∃ (y2 y5 y7 y8 y9 y10 y11 : Option V), σ = [some (.ref b), some (.ref a), y2, some (.ref L), some (.ref F), y5, some (.ref S), y7, y8, y9, y10, y11]) ?_ ?_ ?_ ?_
              · exact ⟨.refl, _, _, _, _, _, _, _, rfl⟩
              · rintro j σ H8 _ ⟨k8, _⟩
                exact ⟨SqL.of (k8 _ _ hF7 (by simp)), SqL.of (k8 _ _ hS7 (by simp)), SqL.of (k8 _ _ hL7 (by simp))⟩
              · rintro j x y z Tz σ H8 hx hy hz ⟨k8, y2, y5, y7, y8, y9, y10, y11, rfl⟩ nT
                have t18 := t17.keep k8 (by simp)
                have t28 := t27.keep k8 (by simp)
                have e18 := k8 _ _ e1 (by simp)
                have e28 := k8 _ _ e2 (by simp)
                match j, hx, hy, hz with
                | 0, hx, hy, hz =>
                  obtain rfl := Option.some.inj hx
                  obtain rfl := Option.some.inj hy
                  obtain rfl := Option.some.inj hz
                  tm_at "N"
                  exact ⟨by tm_at "kp", _, _, _, _, _, _, _, rfl⟩
                | 1, hx, hy, hz =>
                  obtain rfl := Option.some.inj hx
                  obtain rfl := Option.some.inj hy
                  obtain rfl := Option.some.inj hz
                  tm_at "N"
                  exact ⟨by tm_at "kp", _, _, _, _, _, _, _, rfl⟩
              · rintro σ H8 ⟨k8, y2, y5, y7, y8, y9, y10, y11, rfl⟩
                tm_at "N"
                exact ⟨D7.keep k8 (by simp) (by simp), _, _, _, _, _, _, _, _, _, _, rfl⟩
    · rintro σ H2 ⟨D2, x1, x2, x3, x4, x5, x6, x7, x8, x9, x10, rfl⟩
      tm_at "N"
      have e1 : grind 2 10 3 1 = 2 := by decide
      have e2 : grind 9 (10 - 2 * 1) 3 2 = 2 := by decide
      have e3 : grind 0 (10 - 2 * 1 - 2 * 2) 3 1 = 0 := by decide
      have e4 : grind 5 (10 - 2 * 1 - 2 * 2 - 0 * 1) 3 1 = 1 := by decide
      have e5 : grind 7 (10 - 2 * 1 - 2 * 2 - 0 * 1 - 1 * 1) 3 1000000000 = 0 := by decide
      have e6 : (10 - 2 * 1 - 2 * 2 - 0 * 1 - 1 * 1 : Int) = 3 := by decide
      simp only [e1, e2] at *
      tm_at "N"
      simp only [e3, e4, e6] at *
      tm_at "N"
      refine n_eqInts (ns := [2, 2, 1, 0, 1, 3]) (ms := [2, 2, 1, 0, 1, 3]) (SqL.of (by tm_at "hq")) (SqL.of (by tm_at "hq")) ?_
      tm_at "N"
      simp only [e5] at *
      tm_at "N"
      exact k _
end
/-! ### the head -/
abbrev R : PySem.W.OpenRow := PySem.W.OpenLaw.row PySem.Challenge.rw_littlemasters_k20_stones_that_wear
abbrev hk : PySem.W.Hook := He.hookD 5 fa fn
def ob (s : PySem.W.SharedT) : He.AlD := He.obsDG 5 fa fn (HandSHeadRun.getT s)
theorem ob_eq (s : PySem.W.SharedT) : ob s = hk.obs s.abs := He.obsDG_eq (HandSHeadRun.getT_eq s)
def loose : List PySem.Str := (["Stone", "_law_deck", "_law_draw", "_law_whole", "_law_stone", "_law_ground", "_law_stands", "_law_deed", "_law_done"] : List PySem.Str)
theorem run (w : World) : HandSHeadRun.RunEq R (PySem.W.view R.prog [11]) hk ob 4000 loose w := by
  intro os
  kernel_rfl
theorem facts {P : Program} {w : World} {K : PySem.W.Frag} {h : Heap} {mg : Str → Option Value} {f : Addr} (X : K.In h) (G : h.Ns mainGlobals mg) (hfa : mg ("law" : Str) = some (.ref f)) (c : He.SaysD fa fn K) :
    ∃ fd : FuncData, (∀ (s : Shared) (v : Value), BindsTo s fd ⟨[v], []⟩ [("_law_script", v)]) ∧ ∀ base : Heap, K.In base → base.Ns mainGlobals mg → FnOk P w K mg base CX0 6 f fd ["_law_script"] (spLaw K) := by
  have T : Tx K mg := ⟨c, h, X, G⟩
  have e := hfa.symm.trans T.g_law
  cases e
  have b := FunD.bindsA (ps := ["_law_script"]) T.F_law fun _ _ _ _ _ _ us hl => match us, hl with | [_], _ => rfl
  exact ⟨T.fd_law, fun s v => b s [v] rfl, fun base _ _ => ok_law T⟩
end LM
open PySem PySem.W PySem.Calls PyProof.Rows
theorem PySem.Challenge.cw_littlemasters_k20_stones_that_wear_holds : PySem.Challenge.rw_littlemasters_k20_stones_that_wear.Holds := by
  w_on; o_law
  refine HandSHeadRun.head_any (r := OpenLaw.row PySem.Challenge.rw_littlemasters_k20_stones_that_wear) (q := view (OpenLaw.row PySem.Challenge.rw_littlemasters_k20_stones_that_wear).prog [11]) (H := LM.hk) (ob := LM.ob) (M := 4000) (loose := LM.loose) (d := HandSHeadRun.topDef (OpenLaw.row PySem.Challenge.rw_littlemasters_k20_stones_that_wear).prog 11) (kwd := []) LM.ob_eq
    (by kernel_rfl) (fun s => by kernel_rfl) LM.run (by kernel_rfl) (by kernel_rfl) (by kernel_rfl) (by rfl) (by first | assumption | decide +kernel) (by decide +kernel) ⟨rfl, rfl, rfl, rfl, rfl, by decide +kernel⟩ ?hw ?hc
  case hw => w_witness2
  case hc =>
    refine L2.walk_ofE (l := PySem.Challenge.rw_littlemasters_k20_stones_that_wear) (n := 63) (k := 6) (x := "_law_script") (CX := L2.CX0) rfl (by decide) (by kernel_rfl) ⟨rfl, by decide, by decide⟩ ?F (fun _ _ _ _ z => z)
    intro w mg fa h Y G hmg0
    obtain ⟨K, KX, c⟩ := Y
    have hmg : mg ("law" : PySem.Str) = some (.ref fa) := by
      have e : (HandSHeadRun.topDef (OpenLaw.row PySem.Challenge.rw_littlemasters_k20_stones_that_wear).prog 11).name = ("law" : PySem.Str) := by kernel_rfl
      rw [← e]
      exact hmg0
    obtain ⟨fd, hb, hF⟩ := LM.facts (P := (PySem.Challenge.rw_littlemasters_k20_stones_that_wear).prog) (w := w) KX G hmg c
    exact ⟨K, fd, LM.spLaw K, KX, hb, fun H a ns hl _ hS => ⟨a, ns, rfl, hS, hl, fun _ => rfl⟩, hF⟩

