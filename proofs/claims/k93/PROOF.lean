import PyProof.Rows.All
import Wide.All
import OpenK.AllK
import Wide.FinOn
import PySem.Challenge.RW_codestitch_k93_texts_refused
import HandS.ForMost
import HandS.Flow
import HandS.DictComp
import HandS.SortInts
import HandS.FStr
import HandS.IsInst
import HandS.ClsMeth
import HandS.MakeKwOnly
import HandS.ExcField
import HandS.ExcIs
import HandS.TryOnly
import HandS.TryMany
import HandS.HeadHook1
import HandS.HeadHook2
import KE.KExcIs
import KE.KStar
import KE.KCallOwn
import HandS.Base
import HandS.Call
import HandS.List
import HandS.Dict
import HandS.More
import HandS.Exc
import HandS.ExcOwn
import HandS.Slots
import HandS.Star
import HandS.Property
import HandS.Words
import HandS.WordsExc
import HandS.Defaults
import KE.KExcSuper
import HandS.Ends
import HandS.ExcInit
import KE.KOwnIter
import HandS.IterNext
import HandS.SuiteRaise
import HandS.RaiseFrom
import HandS.Style
import HandS.Finally
import KE.GoesMore
import HandS.SetFor
import HandS.Strs
import HandS.Iter
import PyProof.Rows.Chain
import HandS.SetTxt0
import HandS.Text
import HandS.TupAny
import PyProof.StrOps2
import KE.KStateDown
import HandS.Head0
import HandS.Head1
import HandS.Head2
import HandS.HeadEnd
import HandS.Evl
import KE.IntTextLaws
set_option Elab.async false
set_option linter.all false
set_option maxRecDepth 100000
set_option maxHeartbeats 4000000
namespace Rr
open PySem PySem.Spec PyProof.Rows L2
abbrev PassA (CX : CXT) (X : Cx) (E : L2.St → XK) : Prop := ∀ σ, PassesAt CX X σ (E σ)
theorem pass0 {X : Cx} : PassA CX0 X (fun _ _ _ _ => False) := fun _ _ _ _ _ _ _ h => h.elim
theorem passW {X : Cx} {W : WX} (tk : Takes X W) : PassA (L2.CX X.prog X.w) X (WE W) := fun σ => passAt tk σ
section
variable {X : Cx} {CX : CXT} {k : Nat} {f C g : Addr} {sp : Sp} {E : L2.St → XK} {x m : Str} {p pos apos : Pos} {e o fe : Expr} {es : List Expr} {ta tf : TE} {t : TA}
theorem runR {pins : List (Addr × Obj)} {σ : L2.St} {H : Hp} {s : Shared} {Q : VK} {us : List Value} {vs : List V} (F : FnR X.prog X.w X.K X.mg X.base CX k f sp) (hr : Room k X.A) (hx : PassA CX X E) (I : Inv X pins σ H s) (r : Vals vs us) (h : sp vs H Q (E σ)) :
    codeAny (model X.prog X.w) X.A (.call (.ref f) ⟨us, []⟩) (fun r s' => match r with | .ok (.ret v) => EP X pins σ Q v s' | .ok _ => False | .error e => X.xe e s') s := by
  refine codeAny_mono (F X.A X.stack s H us vs Q (E σ) hr I.env0 r h) fun r s' hq => ?_
  cases r with
  | error e => exact hx σ pins H s e s' I hq
  | ok fl =>
    cases fl with
    | ret u => exact I.after hq
    | next => exact False.elim hq
    | brk => exact False.elim hq
    | cont => exact False.elim hq
def tR (sp : Sp) (E : L2.St → XK) (t : TA) : TE := fun σ H Q => t σ H fun vs H1 => sp vs H1 Q (E σ)
theorem pe_cR (F : FnR X.prog X.w X.K X.mg X.base CX k f sp) (hr : Room k X.A) (hk : PySem.W.keepIn X.K (.ref f) = true) (hm : X.mg x = some (.ref f)) (hx : PassA CX X E) (ha : PA X (e :: es) t) (hg : Gl X x := by rfl) (hd : (x == ("__debug__" : Str)) = false := by decide)
    (he : starEach (e :: es) X.env = (false, eval e X.env) :: starEach es X.env := by rfl) (hpl : (backTo pos (starEach es X.env)).any (·.1) = false := by rfl) : PE X (.Call (.Name x p) (e :: es) [] pos) (tR sp E t) := by
  refine ⟨fun pins s σ H Q I h => ?_⟩
  refine wpAny_Call_Name_kw (ld_glob I hg hm ?_ hd)
  refine PySem.W.callWith_K (h₀ := X.base) I.ok.mod.kin hk (thn (ha.run pos pins s σ H _ I h) fun us s1 ⟨vs, H1, I1, r, q⟩ => ⟨I1.kIn, ?_⟩) he hpl
  exact wpAny_call (runR F hr hx I1 r q)
theorem pe_cRS (F : FnR X.prog X.w X.K X.mg X.base CX k f sp) (hr : Room k X.A) (hk : PySem.W.keepIn X.K (.ref f) = true) (hm : X.mg x = some (.ref f)) (hx : PassA CX X E) (ha : PA X (e :: es) t) (hg : Gl X x := by rfl) (hd : (x == ("__debug__" : Str)) = false := by decide)
    (he : starEach (e :: es) X.env = (false, eval e X.env) :: starEach es X.env := by rfl) (hst : (backTo pos (starEach es X.env)).any (·.1) = true := by rfl) : PE X (.Call (.Name x p) (e :: es) [] pos) (tR sp E t) := by
  refine ⟨fun pins s σ H Q I h => ?_⟩
  refine wpAny_Call_Name_kw (ld_glob I hg hm ?_ hd)
  refine PySem.W.callWith_S2 (h₀ := X.base) I.ok.mod.kin hk (thn (ha.run pos pins s σ H _ I h) fun us s1 ⟨vs, H1, I1, r, q⟩ => ⟨I1.kIn, ?_⟩) he hst
  exact wpAny_call (runR F hr hx I1 r q)
theorem pe_cR0 (F : FnR X.prog X.w X.K X.mg X.base CX k f sp) (hr : Room k X.A) (hk : PySem.W.keepIn X.K (.ref f) = true) (hm : X.mg x = some (.ref f)) (hx : PassA CX X E) (hg : Gl X x := by rfl) (hd : (x == ("__debug__" : Str)) = false := by decide) :
    PE X (.Call (.Name x p) [] [] pos) (tR sp E tNil) := by
  refine ⟨fun pins s σ H Q I h => ?_⟩
  refine wpAny_Call_Name_kw (ld_glob I hg hm ?_ hd)
  exact PySem.W.callWith_K0 I.kIn hk (wpAny_call (runR (us := []) F hr hx I .nil h))
def tMR (C : Addr) (m : Str) (sp : Sp) (E : L2.St → XK) (ta : TE) (t : TA) : TE := fun σ H Q => ta σ H fun x H1 => ∃ a dx fs, x = .ref a ∧ H1 a = some (.ins C dx fs) ∧ fs.lookup m = none ∧ t σ H1 fun vs H2 => sp (x :: vs) H2 Q (E σ)
theorem pe_mR {pl : Sem Bool} (he : PE X o ta) (c : Cls X.K C) (hm : Meth X.K C m f) (F : FnR X.prog X.w X.K X.mg X.base CX k f sp) (hr : Room k X.A) (hx : PassA CX X E) (ha : PA X (e :: es) t)
    (hst : starEach (e :: es) X.env = (false, eval e X.env) :: starEach es X.env := by rfl) (hpl : (backTo pos (starEach es X.env)).any (·.1) = false := by rfl)
    (ht : eval (.Call (.Attribute o m apos) (e :: es) [] pos) X.env = (do
      let ov ← eval o X.env
      standAt apos.atName
      let (f, first) ← holding [ov] (getMethod ov m pl)
      callWith pos f first (backTo pos (starEach (e :: es) X.env)) (backToKw pos (keywordEach [] X.env))) := by rfl) : PE X (.Call (.Attribute o m apos) (e :: es) [] pos) (tMR C m sp E ta t) := by
  refine ⟨fun pins s σ H Q I h => ?_⟩
  refine PySem.W.methodCall_KW (pl := pl) (thn (he.run pins s σ H _ I h) fun u s1 ⟨x, H1, I1, rx, a, dx, fs, ex, ea, l, q⟩ => ?_) ht
  subst ex
  obtain rfl : u = Value.ref a := rx
  refine getmeth_ok I1 ea c hm l ?_
  refine PySem.W.callWith_K (first := [.ref a]) (h₀ := X.base) I.ok.mod.kin hm.kp (thn (ha.run pos pins s1 σ H1 _ I1 q) fun us s2 ⟨vs, H2, I2, r, q2⟩ => ⟨I2.kIn, ?_⟩) hst hpl
  exact wpAny_call (runR (us := .ref a :: us) (vs := .ref a :: vs) F hr hx I2 (.cons rfl r) q2)
theorem pe_mR0 {pl : Sem Bool} (he : PE X o ta) (c : Cls X.K C) (hm : Meth X.K C m f) (F : FnR X.prog X.w X.K X.mg X.base CX k f sp) (hr : Room k X.A) (hx : PassA CX X E)
    (ht : eval (.Call (.Attribute o m apos) [] [] pos) X.env = (do
      let ov ← eval o X.env
      standAt apos.atName
      let (f, first) ← holding [ov] (getMethod ov m pl)
      callWith pos f first (backTo pos (starEach [] X.env)) (backToKw pos (keywordEach [] X.env))) := by rfl) : PE X (.Call (.Attribute o m apos) [] [] pos) (tMR C m sp E ta tNil) := by
  refine ⟨fun pins s σ H Q I h => ?_⟩
  refine PySem.W.methodCall_KW (pl := pl) (thn (he.run pins s σ H _ I h) fun u s1 ⟨x, H1, I1, rx, a, dx, fs, ex, ea, l, q⟩ => ?_) ht
  subst ex
  obtain rfl : u = Value.ref a := rx
  refine getmeth_ok I1 ea c hm l ?_
  refine PySem.W.callWith_K0 (first := [.ref a]) I1.kIn hm.kp ?_
  exact wpAny_call (runR (us := [.ref a]) (vs := [.ref a]) F hr hx I1 (.cons rfl .nil) q)
def tKR (C : Addr) (sp : Sp) (E : L2.St → XK) (t : TA) : TE := fun σ H Q => t σ H fun vs H1 => ∀ x dx, H1 x = Option.none → H1 dx = Option.none → dx ≠ x →
  sp (V.ref x :: vs) (upd (upd H1 dx (.own x)) x (.ins C dx [])) (fun v H2 => v = .non ∧ Q (.ref x) H2) (E σ)
theorem run_kR {pins : List (Addr × Obj)} {σ : L2.St} {H : Hp} {s : Shared} {Q : VK} {us : List Value} {vs : List V} (M : Mk X.K C f) (F : FnR X.prog X.w X.K X.mg X.base CX k f sp) (hr : Room (k + 1) X.A) (hx : PassA CX X E) (I : Inv X pins σ H s) (r : Vals vs us)
    (h : ∀ x dx, H x = Option.none → H dx = Option.none → dx ≠ x → sp (V.ref x :: vs) (upd (upd H dx (.own x)) x (.ins C dx [])) (fun v H2 => v = .non ∧ Q (.ref x) H2) (E σ)) :
    wpAny (model X.prog X.w) X.A (call (.ref C) us) (EP X pins σ Q) X.xe s := by
  have hq := h (s.heap.objs.size + 1) s.heap.objs.size (I.hok.fresh (Nat.le_succ _)) (I.hok.fresh (Nat.le_refl _)) (Nat.ne_of_lt (Nat.lt_succ_self _))
  have I2 := Inv.made (C := C) I
  have r2 : Vals (V.ref (s.heap.objs.size + 1) :: vs) (Value.ref (s.heap.objs.size + 1) :: us) := .cons rfl r
  refine wpAny_call (make_map (f := f) I.kIn M.makes M.init (beq_iff_eq.mp M.fn) (codeAny_mono (F _ X.stack _ _ (Value.ref (s.heap.objs.size + 1) :: us) _ _ (E σ) (hr.make C us []) (I2.env0.make C us []) r2 hq) fun r s' hq' => ?_))
  cases r with
  | error e => exact hx σ pins _ _ e s' I2 hq'
  | ok fl =>
    cases fl with
    | ret u =>
      obtain ⟨v, H', I3, rv, ev, q3⟩ := I2.after hq'
      subst ev
      exact ⟨rv, ⟨V.ref (s.heap.objs.size + 1), H', I3, rfl, q3⟩⟩
    | next => exact False.elim hq'
    | brk => exact False.elim hq'
    | cont => exact False.elim hq'
theorem pe_kR (M : Mk X.K C f) (F : FnR X.prog X.w X.K X.mg X.base CX k f sp) (hr : Room (k + 1) X.A) (hm : X.mg x = some (.ref C)) (hx : PassA CX X E) (ha : PA X (e :: es) t) (hg : Gl X x := by rfl) (hdb : (x == ("__debug__" : Str)) = false := by decide)
    (he : starEach (e :: es) X.env = (false, eval e X.env) :: starEach es X.env := by rfl) (hpl : (backTo pos (starEach es X.env)).any (·.1) = false := by rfl) : PE X (.Call (.Name x p) (e :: es) [] pos) (tKR C sp E t) := by
  refine ⟨fun pins s σ H Q I h => ?_⟩
  refine wpAny_Call_Name_kw (ld_glob I hg hm ?_ hdb)
  refine PySem.W.callWith_K (h₀ := X.base) I.ok.mod.kin M.kp (thn (ha.run pos pins s σ H _ I h) fun us s1 ⟨vs, H1, I1, r, q⟩ => ⟨I1.kIn, ?_⟩) he hpl
  exact run_kR M F hr hx I1 r q
theorem pe_kRS (M : Mk X.K C f) (F : FnR X.prog X.w X.K X.mg X.base CX k f sp) (hr : Room (k + 1) X.A) (hm : X.mg x = some (.ref C)) (hx : PassA CX X E) (ha : PA X (e :: es) t) (hg : Gl X x := by rfl) (hdb : (x == ("__debug__" : Str)) = false := by decide)
    (he : starEach (e :: es) X.env = (false, eval e X.env) :: starEach es X.env := by rfl) (hst : (backTo pos (starEach es X.env)).any (·.1) = true := by rfl) : PE X (.Call (.Name x p) (e :: es) [] pos) (tKR C sp E t) := by
  refine ⟨fun pins s σ H Q I h => ?_⟩
  refine wpAny_Call_Name_kw (ld_glob I hg hm ?_ hdb)
  refine PySem.W.callWith_S2 (h₀ := X.base) I.ok.mod.kin M.kp (thn (ha.run pos pins s σ H _ I h) fun us s1 ⟨vs, H1, I1, r, q⟩ => ⟨I1.kIn, ?_⟩) he hst
  exact run_kR M F hr hx I1 r q
theorem pe_kR0 (M : Mk X.K C f) (F : FnR X.prog X.w X.K X.mg X.base CX k f sp) (hr : Room (k + 1) X.A) (hm : X.mg x = some (.ref C)) (hx : PassA CX X E) (hg : Gl X x := by rfl) (hdb : (x == ("__debug__" : Str)) = false := by decide) : PE X (.Call (.Name x p) [] [] pos) (tKR C sp E tNil) := by
  refine ⟨fun pins s σ H Q I h => ?_⟩
  refine wpAny_Call_Name_kw (ld_glob I hg hm ?_ hdb)
  exact PySem.W.callWith_K0 I.kIn M.kp (run_kR (us := []) M F hr hx I .nil h)
def tOR (C : Addr) (sp : Sp) (E : L2.St → XK) (tf : TE) (t : TA) : TE := fun σ H Q => tf σ H fun y H1 => ∃ a, y = V.ref a ∧ t σ H1 fun vs H2 => (∃ dx fs, H2 a = some (.ins C dx fs)) ∧ sp (V.ref a :: vs) H2 Q (E σ)
theorem pe_oR (hf : PE X fe tf) (c : StX.CallO X.K C g) (F : FnR X.prog X.w X.K X.mg X.base CX k g sp) (hr : Room k X.A) (hx : PassA CX X E) (ha : PA X (e :: es) t)
    (ht : eval (.Call fe (e :: es) [] pos) X.env = (do callWith pos (← eval fe X.env) [] (backTo pos (starEach (e :: es) X.env)) (backToKw pos (keywordEach [] X.env))) := by rfl)
    (he : starEach (e :: es) X.env = (false, eval e X.env) :: starEach es X.env := by rfl) (hpl : (backTo pos (starEach es X.env)).any (·.1) = false := by rfl) : PE X (.Call fe (e :: es) [] pos) (tOR C sp E tf t) := by
  refine ⟨fun pins s σ H Q I h => ?_⟩
  refine Call_ (thn (hf.run pins s σ H _ I h) fun u s1 ⟨y, H1, I1, ry, a, ey, q⟩ => ?_) ht
  subst ey
  obtain rfl : u = Value.ref a := ry
  refine StX.callO_with (thn (ha.run pos pins s1 σ H1 _ I1 q) fun us s2 ⟨vs, H2, I2, r, hi, q2⟩ => ?_) he hpl
  obtain ⟨ox, od, J, hd⟩ := StX.insC_at I2 (.inr hi)
  refine ⟨⟨C, ox, od, J, hd⟩, ?_⟩
  exact wpAny_call (PySem.W.kco_code I2.kIn J hd c.at_ c.fn c.fi (runR (us := .ref a :: us) (vs := .ref a :: vs) F hr hx I2 (.cons rfl r) q2))
theorem fnR_of {fd : FuncData} {ps : List Str} (F : FnOk X.prog X.w X.K X.mg X.base CX k f fd ps sp) (hb : Binds X.K fd ps []) : FnR X.prog X.w X.K X.mg X.base CX k f sp :=
  (F.raw hb .nil).imp fun vs H Q E h => by rw [List.append_nil]; exact h
end
theorem fnR_ok {P : Program} {w : World} {K : PySem.W.Frag} {mg : Str → Option Value} {base : Heap} {CX : CXT} {k : Nat} {f : Addr} {sp : Sp} {fd : FuncData} {ps : List Str} (F : FnOk P w K mg base CX k f fd ps sp) (hb : Binds K fd ps []) : FnR P w K mg base CX k f sp :=
  (F.raw hb .nil).imp fun vs H Q E h => by rw [List.append_nil]; exact h
end Rr
namespace SupX
open PySem PySem.W PySem.Calls PyProof.Rows PySem.HandSPX
def iSup (txt : Str) (q1 q2 q3 q4 q5 q6 : Pos) : Stmt := .Expr (.Call (.Attribute (.Call (.Name "super" q1) [] [] q2) "__init__" q3) [.Constant (.str txt) 0 q4] [] q5) q6
def iSet (f : Str) (r1 r2 r3 r4 : Pos) : Stmt := .Assign [.Attribute (.Name "self" r1) f r2] (.Name f r3) r4
def Sets : List Str → List Stmt → Prop
  | [], r => r = []
  | f :: fs, r => ∃ r1 r2 r3 r4 l, r = iSet f r1 r2 r3 r4 :: l ∧ Sets fs l
structure InitTxt (params : Arguments) (body : List Stmt) (scope : Scope) (fs : List Str) : Prop where
  ne : fs ≠ []
  few : fs.length ≤ 4
  bnd : ∀ (name qual : Str) (kV doc pm : Value) (an : Option Addr) (cdv ct : Value) (cc : Addr) (us : List Value), us.length = (("self" : Str) :: fs).length →
    bindArgs (ksFn name qual params body scope .none kV doc pm an cdv ct cc) ⟨us, []⟩ = pure ((("self" : Str) :: fs).zip us)
  first : ∃ ar, (params.posonlyargs ++ params.args).head? = some ar ∧ ar.arg = ("self" : Str)
  cell : ∀ x ∈ scope.names, x.2 ≠ .cell
  loc : ∀ f ∈ (("self" : Str) :: fs), scope.names.lookup f = some .local
  ks : scope.names.lookup ("super" : Str) = some .globalImplicit
  kc : scope.names.lookup ("__class__" : Str) = some .free
  kind : scope.kind = .function
  co : scope.isCoroutine = false
  gen : scope.isGenerator = false
  nd : (("self" : Str) :: fs).Nodup
  nb : ∀ f ∈ fs, (f == ("__debug__" : Str)) = false
  txt : ∃ txt q1 q2 q3 q4 q5 q6 l, body = iSup txt q1 q2 q3 q4 q5 q6 :: l ∧ (q3.endLine == q5.line) = true ∧ Sets fs l
structure SupC (P : Program) (K : Frag) (mg : Str → Option Value) (x : Str) (C fI : Addr) (fs : List Str) : Prop where
  gC : mg x = some (.ref C)
  cls : ∃ nm q N bs bm sn sub ab col dd k0 k1 k2 k3 k5, K.lookup C = some (excClassObj nm q C N bs bm true sn sub ab col dd k0 k1 k2 k3 k5 "ValueError.__new__") ∧ refsVE bm = true ∧
    alongIn K "__init__" bm = some (some (.builtin "ValueError.__init__"))
  sa : findIn K (.ref C) "__setattr__" = some (some (.builtin "object.__setattr__"))
  no : ∀ f ∈ fs, findIn K (.ref C) f = some none
  iC : findIn K (.ref C) "__init__" = some (some (.ref fI))
  tI : typeIn K (.ref fI) = some (.type "function")
  kC : keepIn K (.ref C) = true
  exC : subIn K (.ref C) (.type "BaseException") = some true
  veC : subIn K (.ref C) (.type "ValueError") = some true
  seC : mroIn K C (.ref C) = some true
  tyC : typeIn K (.ref C) = some (.type "type")
  opq : nsIn K cStatics "thirdparty.any" = some none
  noS : mg "super" = none
  top : (P.main.scope.names.lookup ("super" : Str)).isSome = false
  fn : ∃ (oc : Value) (od : Option Addr) (osl : Array (Option Value)) (name qual : Str) (params : Arguments) (body : List Stmt) (scope : Scope) (kV doc pm : Value) (an : Option Addr) (ct : Value) (cda cc : Addr)
      (ccl : Value) (cdd : Option Addr) (vs : Array Value) (ccs : Array (Option Value)) (file : Str) (tf : Tok) (cl : Value) (cld : Option Addr) (csl : Array (Option Value)),
    K.lookup fI = some ⟨oc, od, .func (ksFn name qual params body scope .none kV doc pm an (.ref cda) ct cc), osl⟩ ∧ codeIn K (.ref cda) qual = true ∧
    K.lookup cda = some ⟨ccl, cdd, .fields vs, ccs⟩ ∧ vs[2]? = some (.str file tf) ∧ ((P.main.file : Str) == file) = true ∧
    K.lookup cc = some ⟨cl, cld, .cell (some (.ref C)), csl⟩ ∧ InitTxt params body scope fs
theorem lookup_mem {f : Str} {v : Value} : ∀ {l : List (Str × Value)}, (l.map (·.1)).Nodup → (f, v) ∈ l → l.lookup f = some v
  | [], _, h => by simp at h
  | (g, u) :: l, nd, h => by
    have nd' : g ∉ l.map (·.1) ∧ (l.map (·.1)).Nodup := by simpa using nd
    rcases List.mem_cons.mp h with e | h
    · injection e with e1 e2
      subst e1 e2
      simp [List.lookup]
    · have hne : f ≠ g := fun e => nd'.1 (e ▸ List.mem_map_of_mem (f := (·.1)) h)
      have e2 : (f == g) = false := by simpa using hne
      simp only [List.lookup, e2]
      exact lookup_mem nd'.2 h
theorem lookup_rev {f : Str} {v : Value} {l : List (Str × Value)} (nd : (l.map (·.1)).Nodup) (h : (f, v) ∈ l) : l.reverse.lookup f = some v :=
  lookup_mem (by rw [List.map_reverse]; unfold List.Nodup; rw [List.pairwise_reverse]; exact List.Pairwise.imp (fun h => Ne.symm h) nd) (List.mem_reverse.mpr h)
theorem lookup_cons (f : Str) (v : Value) (ms : List (Str × Value)) : (fun y => if y = f then some v else ms.lookup y) = fun y => ((f, v) :: ms).lookup y := by
  funext y
  by_cases h : y = f
  · subst h; simp [List.lookup]
  · have e : (y == f) = false := by simpa using h
    simp [List.lookup, e, h]
theorem within_cons : ∀ {ms : List (Str × Value)}, Within (fun y => ms.lookup y) (ms.map (·.1)) := fun {ms} y hy => by
  induction ms with
  | nil => exact absurd rfl hy
  | cons p ms ih =>
    obtain ⟨g, u⟩ := p
    by_cases h : y = g
    · rw [h]; exact List.mem_cons_self ..
    · have e : (y == g) = false := by simpa using h
      refine List.mem_cons_of_mem _ (ih fun z => hy ?_)
      simp only [List.lookup, e]
      exact z
structure SupAt (h : Heap) (x C dx : Addr) (ms : List (Str × Value)) : Prop where
  obj : ∃ t1 : Addr, h.get? x = some { cls := .ref C, dict := some dx, data := .fields #[.ref t1, .none, .none, .none, .bool false, .none] }
  ns : h.Ns1 dx (fun y => ms.lookup y)
  ne : dx ≠ x
section
variable {prog : Program} {w : World} {A : Around} {E : Value → Shared → Prop} {K : Frag} {mg : Str → Option Value} {nmx : Str} {C fI x : Addr} {all : List Str}
variable {env : Env} {m : Str → Option Value} {Q : Flow → Shared → Prop}
def Kp (x dx : Addr) (h h' : Heap) : Prop := ∀ b o, b ≠ x → b ≠ dx → h.get? b = some o → h'.get? b = some o
theorem stores_old {dx : Addr} (T : SupC prog K mg nmx C fI all) (hfun : env.scope.kind = .function) (hself : env.kindOf "self" = some .local) (msf : m "self" = some (.ref x)) (hLx : env.locals ≠ x) (hLd : env.locals ≠ dx) (nkx : K.lookup x = none) (nkd : K.lookup dx = none) :
    ∀ {fs : List Str} {l : List Stmt} {ms : List (Str × Value)} {s : Shared}, Sets fs l → (∀ f ∈ fs, f ∈ all) → (∀ f ∈ fs, (f == ("__debug__" : Str)) = false) → (∀ f ∈ fs, env.kindOf f = some .local) → (∀ f ∈ fs, ∃ v, m f = some v) → ms.length + fs.length ≤ 100 →
      K.In s.heap → s.heap.Ns env.locals m → SupAt s.heap x C dx ms →
      (∀ h' tk (vs : List Value), vs.length = fs.length → (∀ (i : Nat) (f : Str), fs[i]? = some f → vs[i]? = m f) → SupAt h' x C dx ((fs.zip vs).reverse ++ ms) → Kp x dx s.heap h' → Q .next { s with heap := h', toks := tk }) → wpAny (model prog w) A (execs l env) Q E s
  | [], l, ms, s, hl, _, _, _, _, _, _, _, S, hq => by
    obtain rfl : l = [] := hl
    exact wpAny_execs_nil (hq s.heap s.toks [] rfl (fun i f e => by simp at e) S fun b o _ _ e => e)
  | f :: fs, l, ms, s, hl, hin, hdb, hlo, hv, hz, X, hn, S, hq => by
    obtain ⟨r1, r2, r3, r4, l', rfl, hl'⟩ := hl
    obtain ⟨v, ev⟩ := hv f (List.mem_cons_self ..)
    refine wpAny_execs_cons (plainObj_wpAny_Assign_Attribute ?_)
    refine wpAny_Name (wpAny_loadName_local hfun (hlo f (List.mem_cons_self ..)) hn ev ?_) (hdb f (List.mem_cons_self ..))
    refine wpAny_Name (wpAny_loadName_local hfun hself hn msf ?_) (by decide)
    obtain ⟨nm, q, N, bs, bm, sn, sub, ab, col, dd, k0, k1, k2, k3, k5, hC, hbm, hal⟩ := T.cls
    have hcl : clsIn K C = some { name := nm, bases := bs, mro := .ref C :: bm, ns := N, qualname := q, hasDict := true, slotNames := sn, subclasses := sub, abstract := ab, collection := col, hasDel := false } := by unfold clsIn; rw [hC] <;> rfl
    obtain ⟨⟨t1, ho⟩, hns, hne⟩ := S
    have hw := within_cons (ms := ms)
    obtain ⟨hp, g, d, t, os⟩ := s
    obtain ⟨oD, _, _, hoD, _, _⟩ := hns.count hw
    refine set_plain X (ox := { cls := .ref C, dict := some dx, data := .fields #[.ref t1, .none, .none, .none, .bool false, .none] }) (od := some oD) ⟨ho, rfl, rfl, hoD⟩ T.sa ?_
    refine OEX.osa_old X ho hns hw (by rw [List.length_map]; simp at hz; omega) hcl (show refsVE (.ref C :: bm) = true from hbm) rfl (T.no f (hin f (List.mem_cons_self ..))) (fun h' tk' k hn' => ?_)
    rw [lookup_cons] at hn'
    have X' : K.In h' := fun a o e => k a o (fun z => by rw [z, nkd] at e; cases e) (X a o e)
    have hL' : h'.Ns env.locals m := by
      obtain ⟨oL, es, ep, hL, r⟩ := hn
      exact ⟨oL, es, ep, k _ _ hLd hL, r⟩
    refine stores_old T hfun hself msf hLx hLd nkx nkd (ms := (f, v) :: ms) (s := ⟨h', g, d, tk', os⟩) hl' (fun g hg => hin g (List.mem_cons_of_mem _ hg)) (fun g hg => hdb g (List.mem_cons_of_mem _ hg)) (fun g hg => hlo g (List.mem_cons_of_mem _ hg)) (fun g hg => hv g (List.mem_cons_of_mem _ hg))
      (by simp at hz ⊢; omega) X' hL' ⟨⟨t1, k _ _ hne.symm ho⟩, hn', hne⟩ (fun h2 tk2 vs hvl hvi S2 k2 => ?_)
    refine hq h2 tk2 (v :: vs) (by simp [hvl]) (fun i g e => ?_) ?_ (fun b o n1 n2 e => k2 b o n1 n2 (k b o n2 e))
    · cases i with
      | zero => simp at e; subst e; simp [ev]
      | succ i => simp at e ⊢; exact hvi i g e
    · simpa using S2
theorem stores_new (T : SupC prog K mg nmx C fI all) (hfun : env.scope.kind = .function) (hself : env.kindOf "self" = some .local) (msf : m "self" = some (.ref x)) (hLx : env.locals ≠ x) (nkx : K.lookup x = none)
    {f : Str} {fs : List Str} {l : List Stmt} {s : Shared} {t1 : Addr} (hl : Sets (f :: fs) l) (hin : ∀ g ∈ f :: fs, g ∈ all) (hdb : ∀ g ∈ f :: fs, (g == ("__debug__" : Str)) = false) (hlo : ∀ g ∈ f :: fs, env.kindOf g = some .local) (hv : ∀ g ∈ f :: fs, ∃ v, m g = some v) (hz : fs.length ≤ 90)
    (X : K.In s.heap) (hn : s.heap.Ns env.locals m) (ho : s.heap.get? x = some (excO C t1))
    (hq : ∀ h' tk dx (vs : List Value), vs.length = (f :: fs).length → (∀ (i : Nat) (g : Str), (f :: fs)[i]? = some g → vs[i]? = m g) → s.heap.objs.size ≤ dx → SupAt h' x C dx ((f :: fs).zip vs).reverse → (∀ b o, b ≠ x → s.heap.get? b = some o → h'.get? b = some o) → Q .next { s with heap := h', toks := tk }) : wpAny (model prog w) A (execs l env) Q E s := by
  obtain ⟨r1, r2, r3, r4, l', rfl, hl'⟩ := hl
  obtain ⟨v, ev⟩ := hv f (List.mem_cons_self ..)
  refine wpAny_execs_cons (plainObj_wpAny_Assign_Attribute ?_)
  refine wpAny_Name (wpAny_loadName_local hfun (hlo f (List.mem_cons_self ..)) hn ev ?_) (hdb f (List.mem_cons_self ..))
  refine wpAny_Name (wpAny_loadName_local hfun hself hn msf ?_) (by decide)
  obtain ⟨nm, q, N, bs, bm, sn, sub, ab, col, dd, k0, k1, k2, k3, k5, hC, hbm, hal⟩ := T.cls
  have hcl : clsIn K C = some { name := nm, bases := bs, mro := .ref C :: bm, ns := N, qualname := q, hasDict := true, slotNames := sn, subclasses := sub, abstract := ab, collection := col, hasDel := false } := by unfold clsIn; rw [hC] <;> rfl
  obtain ⟨hp, g, d, t, os⟩ := s
  refine set_plain X (ox := excO C t1) (od := none) ⟨ho, rfl, rfl, trivial⟩ T.sa ?_
  refine exc_osa X ho hcl (show refsVE (.ref C :: bm) = true from hbm) rfl (T.no f (hin f (List.mem_cons_self ..))) (fun h' tk' dx k dn dne hx' hn' => ?_)
  have e1 : (fun y => if y = f then some v else none) = fun y => ([(f, v)] : List (Str × Value)).lookup y := lookup_cons f v []
  rw [e1] at hn'
  have X' : K.In h' := fun a o e => k a o (fun z => by rw [z, nkx] at e; cases e) (X a o e)
  have hL' : h'.Ns env.locals m := by
    obtain ⟨oL, es, ep, hL, r⟩ := hn
    exact ⟨oL, es, ep, k _ _ hLx hL, r⟩
  have hLd : env.locals ≠ dx := by
    obtain ⟨oL, es, ep, hL, r⟩ := hn
    exact Nat.ne_of_lt (Nat.lt_of_lt_of_le (Heap.lt_size hL) dn)
  have nkd : K.lookup dx = none := by
    cases e : K.lookup dx with
    | none => rfl
    | some o => exact absurd (Nat.lt_of_lt_of_le (Heap.lt_size (X dx o e)) dn) (Nat.lt_irrefl _)
  refine stores_old T hfun hself msf hLx hLd nkx nkd (fs := fs) (ms := [(f, v)]) (s := ⟨h', g, d, tk', os⟩) hl' (fun g hg => hin g (List.mem_cons_of_mem _ hg)) (fun g hg => hdb g (List.mem_cons_of_mem _ hg)) (fun g hg => hlo g (List.mem_cons_of_mem _ hg)) (fun g hg => hv g (List.mem_cons_of_mem _ hg))
    (by simp; omega) X' hL' ⟨⟨t1, hx'⟩, hn', dne⟩ (fun h2 tk2 vs hvl hvi S2 k2 => ?_)
  refine hq h2 tk2 dx (v :: vs) (by simp [hvl]) (fun i g e => ?_) dn ?_ (fun b o n1 e => ?_)
  · cases i with
    | zero => simp at e; subst e; simp [ev]
    | succ i => simp at e ⊢; exact hvi i g e
  · simpa using S2
  · exact k2 b o n1 (Nat.ne_of_lt (Nat.lt_of_lt_of_le (Heap.lt_size e) dn)) (k b o n1 e)
end
theorem sup_call {pl0 : Unit} {txt : Str} {q1 q2 q3 q4 q5 : Pos} {env : Env} (hl : (q3.endLine == q5.line) = true) :
    eval (.Call (.Attribute (.Call (.Name "super" q1) [] [] q2) "__init__" q3) [.Constant (.str txt) 0 q4] [] q5) env = (do
      let ov ← attributeBase (.Call (.Name "super" q1) [] [] q2) "__init__" env (eval (.Call (.Name "super" q1) [] [] q2) env)
      standAt q3.atName
      let (f, first) ← holding [ov] (getMethod ov "__init__" (do return (← importBound (.Call (.Name "super" q1) [] [] q2) env).getD true))
      callWith q5 f first (backTo q5 (starEach [.Constant (.str txt) 0 q4] env)) []) := by
  have hf : methodCallForm 1 (backTo q5 (starEach [.Constant (.str txt) 0 q4] env)) [] = true := by rfl
  have key : ∀ ov : Value, methodCall (.Call (.Name "super" q1) [] [] q2) "__init__" q3 q5 env ov 1 (backTo q5 (starEach [.Constant (.str txt) 0 q4] env)) [] = (do
      let (f, first) ← holding [ov] (getMethod ov "__init__" (do return (← importBound (.Call (.Name "super" q1) [] [] q2) env).getD true))
      callWith q5 f first (backTo q5 (starEach [.Constant (.str txt) 0 q4] env)) []) := fun ov => by
    have e1 : calleeOf (methodCallForm 1 (backTo q5 (starEach [.Constant (.str txt) 0 q4] env)) []) (.Call (.Name "super" q1) [] [] q2) env ov "__init__" = getMethod ov "__init__" (do return (← importBound (.Call (.Name "super" q1) [] [] q2) env).getD true) := by
      rw [hf] <;> rfl
    have e2 : methodCallPos (methodCallForm 1 (backTo q5 (starEach [.Constant (.str txt) 0 q4] env)) []) (.Call (.Name "super" q1) [] [] q2) env q3 q5 = pure q5 := by
      unfold methodCallPos
      exact if_pos (by rw [hl, Bool.or_true])
    unfold methodCall
    rw [e1, e2]
    first
      | rfl
      | simp only [pure_bind]
  have e0 : eval (.Call (.Attribute (.Call (.Name "super" q1) [] [] q2) "__init__" q3) [.Constant (.str txt) 0 q4] [] q5) env = (do
      let ov ← attributeBase (.Call (.Name "super" q1) [] [] q2) "__init__" env (eval (.Call (.Name "super" q1) [] [] q2) env)
      standAt q3.atName
      methodCall (.Call (.Name "super" q1) [] [] q2) "__init__" q3 q5 env ov 1 (backTo q5 (starEach [.Constant (.str txt) 0 q4] env)) []) := by rfl
  rw [e0]
  simp only [key]
theorem drop_own (C : Addr) (l : List Value) : ((Value.ref C :: l).dropWhile (· != .ref C)).drop 1 = l := by
  simp [List.dropWhile_cons]
section
variable {prog : Program} {w : World} {A : Around} {E : Value → Shared → Prop} {R : Result → Shared → Prop} {K : Frag} {mg : Str → Option Value} {nmx : Str} {C fI x : Addr} {fs : List Str} {s : Shared} {t0 : Addr}
theorem call_mw {u e : Addr} {rest : List Value} {Q : Value → Shared → Prop} (T : SupC prog K mg nmx C fI fs) (X : K.In s.heap) (he : s.heap.get? e = some (excO C t0)) (hu : s.heap.get? u = some (kxs_mw "ValueError.__init__" e)) (hrest : rest.length ≤ sizeLine)
    (hq : ∀ h' t1, (∀ b o, b ≠ e → s.heap.get? b = some o → h'.get? b = some o) → h'.get? e = some (excO C t1) → Q .none { s with heap := h' }) :
    wpAny (model prog w) A (call (.ref u) rest) Q E s := by
  obtain ⟨nm, q, N, bs, bm, sn, sub, ab, col, dd, k0, k1, k2, k3, k5, hC0, hbm, hal⟩ := T.cls
  have hC := X _ _ hC0
  obtain ⟨hh, g, d, tk, os⟩ := s
  refine wpAny_call (codeAny_of_tree ?_)
  show wpAny _ A.in1 (callAny (.ref u) ⟨rest, []⟩) _ _ _
  simp only [callAny]
  refine wpAny_bind (wpAny_load hu ?_)
  simp only [kxs_mw, show (Value.type "method-wrapper" == Value.type "method" || Value.type "method-wrapper" == Value.type "builtin_function_or_method" || Value.type "method-wrapper" == Value.type "method-wrapper") = true by decide, if_true]
  refine KFB.if_so (by decide) ?_
  refine wpAny_bind (check_bound_init F.excBase_ValueError.toExcCallFacts hC he rfl ?_)
  refine wpAny_bind (wpAny_pure (wpAny_pure ?_))
  refine ⟨plainId_quiet F.excBase_ValueError.init.plain _, codeAny_builtin F.excBase_ValueError.initEntry ?_⟩
  exact exc_init_tree (cls := .ref C) (t0 := t0) (dv := none) (c2 := .none) (c3 := .none) (b4 := .bool false) he hrest fun h' k e' _ => hq h' _ k e'
theorem sup_init (T : SupC prog K mg nmx C fI fs) {vs : List Value} (hvl : vs.length = fs.length) (X : K.In s.heap) (G : s.heap.Ns mainGlobals mg) (Bn : ∃ mb, s.heap.Ns builtinsNs mb ∧ mb "super" = some (.type "super")) (hlim : s.heap.NoLimit)
    (hx : s.heap.get? x = some (excO C t0)) (hnx : K.lookup x = none) (hroom : A.depth < recursionLimit)
    (hq : ∀ h' tk dx, s.heap.objs.size ≤ dx → SupAt h' x C dx (fs.zip vs).reverse → (∀ b o, b ≠ x → s.heap.get? b = some o → h'.get? b = some o) → R (.ok (.ret .none)) { s with heap := h', toks := tk }) :
    codeAny (model prog w) A (.call (.ref fI) ⟨.ref x :: vs, []⟩) R s := by
  obtain ⟨oc, od, osl, name, qual, params, body, scope, kV, doc, pm, an, ct, cda, cc, ccl, cdd, cvs, ccs, file, tf, cl, cld, csl, ho, hcd, hcode, hfile, hfl, hcell, I⟩ := T.fn
  obtain ⟨nm, q, N, bs, bm, sn, sub, ab, col, dd, k0, k1, k2, k3, k5, hC0, hbm, hal⟩ := T.cls
  have hcl : clsIn K C = some { name := nm, bases := bs, mro := .ref C :: bm, ns := N, qualname := q, hasDict := true, slotNames := sn, subclasses := sub, abstract := ab, collection := col, hasDel := false } := by unfold clsIn; rw [hC0] <;> rfl
  obtain ⟨txt, q1, q2, q3, q4, q5, q6, l, rfl, hline, hsets⟩ := I.txt
  obtain ⟨ar, hfirst, harg⟩ := I.first
  have hbl : ((("self" : Str) :: fs).zip (Value.ref x :: vs)) = (("self" : Str), Value.ref x) :: fs.zip vs := rfl
  have hmap : (((("self" : Str), Value.ref x) :: fs.zip vs).map (·.1)) = ("self" : Str) :: fs := by
    have : (fs.zip vs).map (·.1) = fs := by
      rw [← List.unzip_fst, List.unzip_zip_left (by omega)]
    simp [this]
  refine ks_codeAny_call_defAt (fd := ksFn name qual params (iSup txt q1 q2 q3 q4 q5 q6 :: l) scope .none kV doc pm an (.ref cda) ct cc) (body := iSup txt q1 q2 q3 q4 q5 q6 :: l) (binds := (("self" : Str), Value.ref x) :: fs.zip vs) hroom (X _ _ ho) rfl hlim (codeRec_of X hcd) rfl
    (BindsTo.of_eq (by rw [I.bnd _ _ _ _ _ _ _ _ _ (Value.ref x :: vs) (by simp [hvl])]; rfl)) I.cell (fun y hy => ?_) (fun h₁ hns k => ?_) I.co I.gen I.kind
  · exact I.loc y.1 (by rw [← hmap]; exact List.mem_map_of_mem (f := (·.1)) hy)
  · have nd : (((("self" : Str), Value.ref x) :: fs.zip vs).map (·.1)).Nodup := by rw [hmap]; exact I.nd
    have mself : (((("self" : Str), Value.ref x) :: fs.zip vs).reverse.lookup ("self" : Str)) = some (.ref x) := lookup_rev nd (List.mem_cons_self ..)
    have X₁ : K.In h₁ := X.keeps k
    have hx₁ := k _ _ hx
    have hxL : s.heap.objs.size ≠ x := Nat.ne_of_gt (Heap.lt_size hx)
    obtain ⟨mb, hb1, hb2⟩ := Bn
    have xC : x ≠ C := fun z => by
      have e := X _ _ hC0
      rw [← z, hx] at e
      cases e
    refine ks_wpAt_execs_cons (ks_wpAt_Expr_any (ks_wpAt_MethodCall ?_ (sup_call (pl0 := ()) hline)) ?_ ?_)
    · refine ks_wpAt_super_base (f := fI) (cc := cda) (env := callEnv (ksFn name qual params (iSup txt q1 q2 q3 q4 q5 q6 :: l) scope .none kV doc pm an (.ref cda) ct cc) s.heap.objs.size fI) I.ks I.kc (by decide) rfl (X₁ _ _ ho) rfl hfirst rfl (X₁ _ _ hcode) rfl hfile hfl T.top ?_
      refine ks_loadName_global I.kind I.ks (loadGlobal_builtin (G.keeps k) T.noS (hb1.keeps k) hb2 ⟨rfl, ?_⟩)
      refine wpAny_loadName_free I.kind I.kc rfl ⟨_, X₁ _ _ hcell, rfl⟩ ?_
      rw [harg]
      refine wpAny_loadName_local I.kind (I.loc _ (List.mem_cons_self ..)) hns mself ?_
      have hC1 := X₁ _ _ hC0
      refine ks_wpAny_isType_cls hC1 rfl ⟨rfl, ?_⟩
      refine ks_wpAny_call_super hC1 rfl hx₁ rfl (fun c e => by cases e) (looks_mroIn X₁ T.seC) (fun h₂ hso k2 => ?_)
      have X₂ : K.In h₂ := X₁.keeps k2
      have hx₂ := k2 _ _ hx₁
      have hI : Looks (model prog w) h₂ (isInstance (.ref x) (.type "ValueError")) true := (show InstAt h₂ x (excO C t0) C none from ⟨hx₂, rfl, rfl, trivial⟩).type.andThen (looks_subIn X₂ T.veC)
      refine kxs_getMethod kxs_ValueError hso (looks_opaque X₂ T.opq) (l₀ := .ref C :: bm) ((looks_clsIn X₂ hcl).andThen .now) (drop_own C bm) X₂ hal hI xC (by decide) ?_
      -- the call of the wrapper
      have hu : (h₂.push (kxs_mw "ValueError.__init__" x)).get? h₂.objs.size = some (kxs_mw "ValueError.__init__" x) := Heap.get?_push_at rfl rfl
      have k3 : ∀ b o, h₂.get? b = some o → (h₂.push (kxs_mw "ValueError.__init__" x)).get? b = some o := fun b o e => Heap.get?_push_of_some _ e
      refine kxs_callWith (i := "ValueError.__init__") (x := x) (by rfl) (evalArgs_plain (Calls.spliced_cons (Constant_str (k := 0) (pos := q4) (Calls.spliced_nil ⟨hu, ?_⟩))))
      refine call_mw (s := ⟨h₂.push (kxs_mw "ValueError.__init__" x), _, _, _, _⟩) (rest := [] ++ [_]) T (X₂.keeps k3) (k3 _ _ hx₂) hu (by rw [sizeLine_eq]; simp) (fun h₄ t1 k4 hx₄ => ?_)
      obtain ⟨f, fs', rfl⟩ : ∃ f fs', fs = f :: fs' := by
        cases fs with
        | nil => exact absurd rfl I.ne
        | cons f fs' => exact ⟨f, fs', rfl⟩
      have kk : ∀ b o, b ≠ x → s.heap.get? b = some o → h₄.get? b = some o := fun b o hb e => k4 b o hb (k3 _ _ (k2 _ _ (k _ _ e)))
      have hsz : s.heap.objs.size ≤ h₄.objs.size := by
        obtain ⟨oL, es, ep, hL, r⟩ := hns
        exact Nat.le_of_lt (Heap.lt_size (k4 _ _ hxL (k3 _ _ (k2 _ _ hL))))
      have hL4 : h₄.Ns s.heap.objs.size (fun y => (((("self" : Str), Value.ref x) :: (f :: fs').zip vs).reverse.lookup y)) := by
        obtain ⟨oL, es, ep, hL, r⟩ := hns
        exact ⟨oL, es, ep, k4 _ _ hxL (k3 _ _ (k2 _ _ hL)), r⟩
      have X₄ : K.In h₄ := fun a o e => kk a o (fun z => by rw [z, hnx] at e; cases e) (X a o e)
      have hmem : ∀ (i : Nat) (g : Str), (f :: fs')[i]? = some g → ∃ v, vs[i]? = some v ∧ (((("self" : Str), Value.ref x) :: (f :: fs').zip vs).reverse.lookup g) = some v := fun i g e => by
        have hi : i < vs.length := by
          have := (List.getElem?_eq_some_iff.mp e).1
          omega
        refine ⟨vs[i], by simp [hi], lookup_rev nd (List.mem_cons_of_mem _ ?_)⟩
        refine List.mem_of_getElem? (i := i) ?_
        rw [List.getElem?_zip_eq_some]
        exact ⟨e, by simp [hi]⟩
      refine wpAt_of_wpAny (stores_new T (env := callEnv (ksFn name qual params (iSup txt q1 q2 q3 q4 q5 q6 :: l) scope .none kV doc pm an (.ref cda) ct cc) s.heap.objs.size fI) (m := fun y => (((("self" : Str), Value.ref x) :: (f :: fs').zip vs).reverse.lookup y)) (x := x) (t1 := t1) I.kind (I.loc _ (List.mem_cons_self ..)) mself hxL hnx hsets (fun g hg => hg) I.nb
        (fun g hg => I.loc g (List.mem_cons_of_mem _ hg)) (fun g hg => ?_) (by have := I.few; simp at this; omega) X₄ hL4 hx₄ (fun h₅ tk dx ws hwl hwi hdx S5 k5 => ?_))
      · obtain ⟨i, hi⟩ := List.getElem?_of_mem hg
        obtain ⟨v, _, e⟩ := hmem i g hi
        exact ⟨v, e⟩
      · have ews : ws = vs := by
          refine List.ext_getElem? fun i => ?_
          cases e : (f :: fs')[i]? with
          | some g =>
            obtain ⟨v, e1, e2⟩ := hmem i g e
            rw [hwi i g e, e1]
            exact e2
          | none =>
            have h1 : (f :: fs').length ≤ i := List.getElem?_eq_none_iff.mp e
            rw [List.getElem?_eq_none_iff.mpr (by omega), List.getElem?_eq_none_iff.mpr (by omega)]
        rw [ews] at S5
        exact hq h₅ tk dx (Nat.le_trans hsz hdx) S5 fun b o hb e => k5 b o hb (kk b o hb e)
    · show (scope.kind == .module && _) = false
      rw [I.kind]
      rfl
    · rfl
end
open PySem PySem.W PySem.Calls PyProof.Rows PySem.HandSPX
structure SupMade (h h' : Heap) (e C d : Addr) (ms : List (Str × Value)) : Prop where
  keep : ∀ b o, h.get? b = some o → h'.get? b = some o
  new : h.objs.size ≤ e
  obj : ∃ t1 : Addr, h'.get? e = some { cls := .ref C, dict := some d, data := .fields #[.ref t1, .none, .none, .none, .bool false, .none] }
  dbig : h.objs.size ≤ d
  dne : d ≠ e
  ns : h'.Ns1 d (fun y => ms.lookup y)
section
variable {prog : Program} {w : World} {A : Around} {E : Value → Shared → Prop} {R : Result → Shared → Prop} {K : Frag} {mg : Str → Option Value} {nmx : Str} {C fI x : Addr} {fs : List Str} {s : Shared}
theorem sup_made (T : SupC prog K mg nmx C fI fs) {vs : List Value} (hvl : vs.length = fs.length) (hf : fs.length ≤ 4) (X : K.In s.heap) (G : s.heap.Ns mainGlobals mg) (Bn : ∃ mb, s.heap.Ns builtinsNs mb ∧ mb "super" = some (.type "super")) (hlim : s.heap.NoLimit)
    (hroom : A.depth + 1 < recursionLimit)
    (hq : ∀ h' tk e d, SupMade s.heap h' e C d (fs.zip vs).reverse → R (.ok (.ret (.ref e))) { s with heap := h', toks := tk }) : codeAny (model prog w) A (.call (.ref C) ⟨vs, []⟩) R s := by
  obtain ⟨nm, q, N, bs, bm, sn, sub, ab, col, dd, k0, k1, k2, k3, k5, hC, hbm, hal⟩ := T.cls
  obtain ⟨hp, g, dr, tk, os⟩ := s
  have k : ∀ b o, hp.get? b = some o → ((hp.push (kdv_tup vs)).push (excO C hp.objs.size)).get? b = some o := fun b o e => Heap.get?_push_of_some _ (Heap.get?_push_of_some _ e)
  have hget : ((hp.push (kdv_tup vs)).push (excO C hp.objs.size)).get? (hp.objs.size + 1) = some (excO C hp.objs.size) := by heap_get
  have hnx : K.lookup (hp.objs.size + 1) = none := by
    cases e : K.lookup (hp.objs.size + 1) with
    | none => rfl
    | some o =>
      have z : hp.get? (hp.objs.size + 1) = some o := X _ _ e
      exact absurd (Nat.lt_of_succ_lt (Heap.lt_size z)) (Nat.lt_irrefl _)
  obtain ⟨mb, hb1, hb2⟩ := Bn
  refine call_own F.excBase_ValueError (fun X => refsVE_contains X bm hbm) (X _ _ hC) (looks_findIn X T.iC) (fun self => bind_fn X self T.tI) (by rw [sizeLine_eq]; omega) ?_
  refine sup_init (s := ⟨(hp.push (kdv_tup vs)).push (excO C hp.objs.size), g, dr, tk, os⟩) T hvl (X.keeps k) (G.keeps k) ⟨mb, hb1.keeps k, hb2⟩ (hlim.keeps k) hget hnx ?_ fun h' tk' dx dn S k' => ?_
  · show A.depth + 1 < recursionLimit
    exact hroom
  · have old : ∀ b o, hp.get? b = some o → h'.get? b = some o := fun b o e => k' b o (Nat.ne_of_lt (Nat.lt_succ_of_lt (Heap.lt_size e))) (k b o e)
    have z : hp.objs.size + 1 + 1 ≤ dx := by
      first
        | (simpa only [Heap.size_push] using dn)
        | exact dn
        | (have q := dn; rw [Heap.size_push, Heap.size_push] at q; exact q)
    obtain ⟨⟨t1, ho⟩, hns, hne⟩ := S
    exact ⟨rfl, hq h' tk' (hp.objs.size + 1) dx ⟨old, Nat.le_succ _, ⟨t1, ho⟩, Nat.le_trans (Nat.le_trans (Nat.le_succ _) (Nat.le_succ _)) z, hne, hns⟩⟩
end
open PySem PySem.Spec PyProof.Rows L2
theorem relO_lookup : ∀ {l : List (Str × V)} {l' : List (Str × Value)}, Paired (fun (p : Str × V) (q : Str × Value) => p.1 = q.1 ∧ RelV p.2 q.2) l l' → ∀ f, RelO (l.lookup f) (l'.lookup f)
  | _, _, .nil, f => trivial
  | (a, v) :: l, (b, u) :: l', .cons h t, f => by
    obtain ⟨e, r⟩ := h
    have e' : a = b := e
    subst e'
    by_cases h : f = a
    · subst h
      simp only [List.lookup, beq_self_eq_true]
      exact r
    · have q : (f == a) = false := by simpa using h
      simp only [List.lookup, q]
      exact relO_lookup t f
theorem paired_app {α β : Type} {P : α → β → Prop} : ∀ {l1 l2 : List α} {m1 m2 : List β}, Paired P l1 m1 → Paired P l2 m2 → Paired P (l1 ++ l2) (m1 ++ m2)
  | _, _, _, _, .nil, h => h
  | _, _, _, _, .cons a t, h => .cons a (paired_app t h)
theorem paired_rev {α β : Type} {P : α → β → Prop} : ∀ {l1 : List α} {m1 : List β}, Paired P l1 m1 → Paired P l1.reverse m1.reverse
  | _, _, .nil => .nil
  | a :: l, b :: m, .cons h t => by
    rw [List.reverse_cons, List.reverse_cons]
    exact paired_app (paired_rev t) (.cons h .nil)
theorem paired_zip : ∀ {fs : List Str} {vs : List V} {us : List Value}, Vals vs us → Paired (fun (p : Str × V) (q : Str × Value) => p.1 = q.1 ∧ RelV p.2 q.2) (fs.zip vs) (fs.zip us)
  | [], _, _, _ => by simp only [List.zip_nil_left]; exact .nil
  | _ :: _, _, _, .nil => .nil
  | f :: fs, _, _, .cons r t => .cons ⟨rfl, r⟩ (paired_zip t)
def tMkSup (C : Addr) (fs : List Str) (ta : TA) : L2.St → Hp → XK → Prop := fun σ H Q => ta σ H fun vs H1 => vs.length = fs.length ∧ ∀ d, H1 d = none → Q (.ref C) (some d) (upd H1 d (.xd (fs.zip vs).reverse))
section
variable {X : Cx} {C fI : Addr} {x : Str} {fs : List Str}
theorem super_blt {pins : List (Addr × Obj)} {σ : L2.St} {H : Hp} {s : Shared} (I : Inv X pins σ H s) : ∃ mb, s.heap.Ns builtinsNs mb ∧ mb "super" = some (.type "super") := by
  obtain ⟨mb, h1, h2⟩ := I.mod.blt
  exact ⟨mb, h1.keeps I.bk, (h2 _ (by decide)).trans (by decide +kernel)⟩
theorem mk_sup {e : Expr} {es : List Expr} {ta : TA} {p pos : Pos} (T : SupC X.prog X.K X.mg x C fI fs) (hdp : X.A.depth + 1 < recursionLimit) (ha : PA X (e :: es) ta) (hf : fs.length ≤ 4) (hg : Gl X x)
    (hdb : (x == ("__debug__" : Str)) = false) (he : starEach (e :: es) X.env = (false, eval e X.env) :: starEach es X.env) (hpl : (backTo pos (starEach es X.env)).any (·.1) = false)
    {pins : List (Addr × Obj)} {s : Shared} {σ : L2.St} {H : Hp} {Q : XK} (I : Inv X pins σ H s) (h : tMkSup C fs ta σ H Q) :
    wpAny (model X.prog X.w) X.A (eval (.Call (.Name x p) (e :: es) [] pos) X.env) (fun u s' => ∃ (e t1 : Addr) (oe : Obj) (vs : Array Value) (sI : Shared) (H' : Hp) (cls : Value) (d : Option Addr), u = .ref e ∧ Inv X pins σ H' sI ∧ (∀ b o, sI.heap.get? b = some o → s'.heap.get? b = some o) ∧ sI.heap.get? e = none ∧ s'.heap.get? e = some oe ∧
    oe = { cls := cls, dict := d, data := .fields vs } ∧ vs = #[.ref t1, .none, .none, .none, .bool false, .none] ∧ H' e = none ∧ s'.os = sI.os ∧ AllBare s'.gens ∧ Raises X cls ∧ Q cls d H') X.xe s := by
  refine wpAny_Call_Name_kw (ld_glob I hg T.gC ?_ hdb)
  refine PySem.W.callWith_K (h₀ := X.base) I.ok.mod.kin T.kC (thn (ha.run pos pins s σ H _ I h) fun us s1 hh => ?_) he hpl
  obtain ⟨vs, H1, I1, r1, hl, q1⟩ := hh
  refine ⟨I1.kIn, ?_⟩
  show wpAny _ _ (call (.ref C) us) _ _ _
  have hlim := I1.nolimit
  have hsup := super_blt I1
  have hG : s1.heap.Ns mainGlobals X.mg := I1.mod.glob.keeps I1.bk
  obtain ⟨hp, g, dr, tk, os⟩ := s1
  refine wpAny_call (sup_made T (by rw [← r1.length]; exact hl) hf I1.kIn hG hsup hlim hdp fun h' tk' e d M => ?_)
  obtain ⟨t1, hoe⟩ := M.obj
  have hns := M.ns
  obtain ⟨G', g1, g2⟩ := restrict h' fun b => decide (b ≠ e)
  have gk : ∀ b, b ≠ e → G'.get? b = h'.get? b := fun b hb => g1 b (decide_eq_true hb)
  have ge : G'.get? e = none := g2 e (by simp)
  have old : ∀ b o, hp.get? b = some o → G'.get? b = some o := fun b o q => (gk b (Nat.ne_of_lt (Nat.lt_of_lt_of_le (Heap.lt_size q) M.new))).trans (M.keep b o q)
  have ob : ObjOk X.prog X.w (upd H1 d (.xd (fs.zip vs).reverse)) G' d (.xd (fs.zip vs).reverse) :=
    ⟨_, hns.at (fun o q => (gk d M.dne).trans q), relO_lookup (paired_rev (paired_zip r1))⟩
  have J : Inv X pins σ (upd H1 d (.xd (fs.zip vs).reverse)) ⟨G', g, dr, tk', os⟩ := I1.laid (t' := tk') old M.dbig ob
  refine ⟨e, t1, _, _, ⟨G', g, dr, tk', os⟩, _, .ref C, some d, rfl, J, fun b o q => ?_, ge, hoe, rfl, rfl, ?_, rfl, I1.bare, raises_own T.exC T.tyC, q1 d (I1.hok.fresh M.dbig)⟩
  · by_cases hb : b = e
    · subst hb; rw [ge] at q; cases q
    · rw [gk b hb] at q; exact q
  · rw [upd_ne M.dne.symm]
    exact I1.hok.fresh M.new
theorem pmk_sup {e : Expr} {es : List Expr} {ta : TA} {p pos : Pos} {k : Nat} (T : SupC X.prog X.K X.mg x C fI fs) (hr : Room k X.A) (ha : PA X (e :: es) ta) (hf : fs.length ≤ 4 := by decide) (hg : Gl X x := by rfl)
    (hdb : (x == ("__debug__" : Str)) = false := by decide) (he : starEach (e :: es) X.env = (false, eval e X.env) :: starEach es X.env := by rfl) (hpl : (backTo pos (starEach es X.env)).any (·.1) = false := by rfl) :
    PMk X (.Call (.Name x p) (e :: es) [] pos) (tMkSup C fs ta) := by
  intro pins s σ H Q I h
  refine wpAny_mono (mk_sup T (by have := hr.dp; omega) ha hf hg hdb he hpl I h) (fun u s' q => ?_) fun _ _ z => z
  obtain ⟨e, t1, oe, vs, sI, H', cls, d, q1, q2, q3, q4, q5, q6, q7, q8, q9, q10, q11, q12⟩ := q
  subst q6 q7
  exact ⟨e, _, _, sI, H', cls, d, q1, q2, q3, q4, q5, ⟨rfl, rfl⟩, rfl, rfl, q8, q9, q10, q11, q12⟩
theorem ps_raiseSup {W : WX} {e : Expr} {es : List Expr} {ta : TA} {p pos pos' : Pos} {k : Nat} (hc : X.calm = true) (T : SupC X.prog X.K X.mg x C fI fs) (hr : Room k X.A) (tk : Takes X W) (ha : PA X (e :: es) ta) (hf : fs.length ≤ 4 := by decide) (hg : Gl X x := by rfl)
    (hdb : (x == ("__debug__" : Str)) = false := by decide) (he : starEach (e :: es) X.env = (false, eval e X.env) :: starEach es X.env := by rfl) (hpl : (backTo pos (starEach es X.env)).any (·.1) = false := by rfl) :
    PS X (.Raise (some (.Call (.Name x p) (e :: es) [] pos)) none pos') (fun _ σ H => tMkSup C fs ta σ H fun cls d H' => W cls d σ H') :=
  ps_raise hc tk (pmk_sup T hr ha hf hg hdb he hpl)
end
end SupX
namespace Rr
open PySem PySem.Spec PyProof.Rows L2
def FnK (P : Program) (w : World) (K : PySem.W.Frag) (mg : Str → Option Value) (base : Heap) (CX : CXT) (k : Nat) (f : Addr) (n : Nat) (ks : List Str) (sp : Sp) : Prop :=
  ∀ (A : Around) (outer : List Env) (s : Shared) (H : Hp) (us ws : List Value) (vs zs : List V) (Q : VK) (E : XK), Room k A → Env0 P w K mg base A outer s H → Vals vs us → Vals zs ws → vs.length = n → zs.length = ks.length → sp (vs ++ zs) H Q E →
    codeAny (model P w) A (.call (.ref f) ⟨us, ks.zip ws⟩) (CR CX outer P w H s Q E) s
theorem fnK_ok {P : Program} {w : World} {K : PySem.W.Frag} {mg : Str → Option Value} {base : Heap} {CX : CXT} {k n : Nat} {f : Addr} {ks : List Str} {sp : Sp} {fd : FuncData} {ps : List Str} {g : List Value → List Value → List Value} (F : FnOk P w K mg base CX k f fd ps sp) (hb : KBn K fd ps n ks g (fun vs zs => vs ++ zs)) :
    FnK P w K mg base CX k f n ks sp := fun A outer s H us ws vs zs Q E hr e0 r rz l1 l2 hs =>
  F.run A outer s H ⟨us, ks.zip ws⟩ (g us ws) (vs ++ zs) Q E hr e0 (hb.to s us ws (e0.mod.kin.keeps fun b o e => (e0.bs b o e).1) (r.length.symm.trans l1) (rz.length.symm.trans l2)) (hb.rel r rz) hs
theorem kb_all {K : PySem.W.Frag} {x qual : Str} {params : Arguments} {body : List Stmt} {scope : Scope} {kws : List (Str × V)} {f : Addr} {fd : FuncData} {ps : List Str} (F : FunD K x qual params body scope [] kws f fd) (n : Nat) (ks : List Str) (hk : kws ≠ [])
    (h : ∀ (D : Addr) (doc pm : Value) (an : Option Addr) (cdv ct : Value) (us ws : List Value), us.length = n → ws.length = ks.length →
      bindArgs (PySem.W.fnOf x qual params body scope .none (.ref D) doc pm an cdv ct) ⟨us, ks.zip ws⟩ = pure (ps.zip (us ++ ws))) : ∃ g, KBn K fd ps n ks g (fun vs zs => vs ++ zs) := by
  obtain ⟨mv, b⟩ := F.kbinds0 (ps := ps) n ks [] (fun us _ ws => us ++ ws) hk (fun q hq => by cases hq) (fun r1 _ r3 => r1.append r3) (fun D doc pm an cdv ct us mv ws l1 _ l3 => h D doc pm an cdv ct us ws l1 l3)
  exact ⟨_, b⟩
def tNR (sp : Sp) (E : L2.St → XK) (n m : Nat) (t tk : TA) : TE := fun σ H Q => t σ H fun vs H1 => tk σ H1 fun zs H2 => vs.length = n ∧ zs.length = m ∧ sp (vs ++ zs) H2 Q (E σ)
section
variable {X : Cx} {CX : CXT} {k n : Nat} {f C g : Addr} {ks : List Str} {sp : Sp} {E : L2.St → XK} {x m : Str} {p pos apos : Pos} {e o fe : Expr} {es : List Expr} {kws : List Keyword} {ta tf : TE} {t tk : TA}
theorem pe_nR (F : FnK X.prog X.w X.K X.mg X.base CX k f n ks sp) (hr : Room k X.A) (hk : PySem.W.keepIn X.K (.ref f) = true) (hm : X.mg x = some (.ref f)) (hx : PassA CX X E) (ha : PA X (e :: es) t) (hkw : PK X kws tk) (hg : Gl X x := by rfl) (hdb : (x == ("__debug__" : Str)) = false := by decide)
    (hall : (backToKw pos (keywordEach kws X.env)).all (·.1.isSome) = true := by rfl) (hks : (backToKw pos (keywordEach kws X.env)).filterMap (·.1) = ks := by rfl)
    (he : starEach (e :: es) X.env = (false, eval e X.env) :: starEach es X.env := by rfl)
    (hpl : ((backTo pos (starEach (e :: es) X.env)).any (·.1) || (backToKw pos (keywordEach kws X.env)).any (·.1.isNone)) = false := by rfl) :
    PE X (.Call (.Name x p) (e :: es) kws pos) (tNR sp E n ks.length t tk) := by
  refine ⟨fun pins s σ H Q I h => ?_⟩
  refine wpAny_Call_Name_kw (ld_glob I hg hm ?_ hdb)
  refine PySem.W.callWith_KW (h₀ := X.base) I.ok.mod.kin hk hall (thn (ha.run pos pins s σ H _ I h) fun us s1 ⟨vs, H1, I1, r, q⟩ => ?_) hpl he
  refine thn (hkw.run pos pins s1 σ H1 _ I1 q) fun ws s2 ⟨zs, H2, I2, rz, l1, l2, q2⟩ => ⟨I2.kIn, ?_⟩
  rw [hks]
  refine wpAny_call (codeAny_mono (F X.A X.stack s2 H2 us ws vs zs Q (E σ) hr I2.env0 r rz l1 l2 q2) fun r s' hq => ?_)
  cases r with
  | error e => exact hx σ pins H2 s2 e s' I2 hq
  | ok fl =>
    cases fl with
    | ret u => exact I2.after hq
    | next => exact False.elim hq
    | brk => exact False.elim hq
    | cont => exact False.elim hq
def tKNR (C : Addr) (sp : Sp) (E : L2.St → XK) (n m : Nat) (t tk : TA) : TE := fun σ H Q => t σ H fun vs H1 => tk σ H1 fun zs H2 => vs.length = n ∧ zs.length = m ∧ ∀ x dx, H2 x = Option.none → H2 dx = Option.none → dx ≠ x →
  sp ((V.ref x :: vs) ++ zs) (upd (upd H2 dx (.own x)) x (.ins C dx [])) (fun v H3 => v = .non ∧ Q (.ref x) H3) (E σ)
theorem pe_knR (M : Mk X.K C f) (F : FnK X.prog X.w X.K X.mg X.base CX k f (n + 1) ks sp) (hr : Room (k + 1) X.A) (hm : X.mg x = some (.ref C)) (hx : PassA CX X E) (ha : PA X (e :: es) t) (hkw : PK X kws tk) (hg : Gl X x := by rfl) (hdb : (x == ("__debug__" : Str)) = false := by decide)
    (hall : (backToKw pos (keywordEach kws X.env)).all (·.1.isSome) = true := by rfl) (hks : (backToKw pos (keywordEach kws X.env)).filterMap (·.1) = ks := by rfl)
    (he : starEach (e :: es) X.env = (false, eval e X.env) :: starEach es X.env := by rfl)
    (hpl : ((backTo pos (starEach (e :: es) X.env)).any (·.1) || (backToKw pos (keywordEach kws X.env)).any (·.1.isNone)) = false := by rfl) :
    PE X (.Call (.Name x p) (e :: es) kws pos) (tKNR C sp E n ks.length t tk) := by
  refine ⟨fun pins s σ H Q I h => ?_⟩
  refine wpAny_Call_Name_kw (ld_glob I hg hm ?_ hdb)
  refine PySem.W.callWith_KW (h₀ := X.base) I.ok.mod.kin M.kp hall (thn (ha.run pos pins s σ H _ I h) fun us s1 ⟨vs, H1, I1, r, q⟩ => ?_) hpl he
  refine thn (hkw.run pos pins s1 σ H1 _ I1 q) fun ws s2 ⟨zs, H2, I2, rz, l1, l2, q2⟩ => ⟨I2.kIn, ?_⟩
  rw [hks]
  have hq := q2 (s2.heap.objs.size + 1) s2.heap.objs.size (I2.hok.fresh (Nat.le_succ _)) (I2.hok.fresh (Nat.le_refl _)) (Nat.ne_of_lt (Nat.lt_succ_self _))
  have I3 := Inv.made (C := C) I2
  have r2 : Vals (V.ref (s2.heap.objs.size + 1) :: vs) (Value.ref (s2.heap.objs.size + 1) :: us) := .cons rfl r
  refine wpAny_call (make_map (f := f) I2.kIn M.makes M.init (beq_iff_eq.mp M.fn) (codeAny_mono (F _ X.stack _ _ (Value.ref (s2.heap.objs.size + 1) :: us) ws _ _ _ (E σ) (hr.make C us (ks.zip ws)) (I3.env0.make C us (ks.zip ws)) r2 rz (by rw [List.length_cons, l1]) l2 hq) fun r s' hq' => ?_))
  cases r with
  | error e => exact hx σ pins _ _ e s' I3 hq'
  | ok fl =>
    cases fl with
    | ret u =>
      obtain ⟨v, H', I4, rv, ev, q3⟩ := I3.after hq'
      subst ev
      exact ⟨rv, ⟨V.ref (s2.heap.objs.size + 1), H', I4, rfl, q3⟩⟩
    | next => exact False.elim hq'
    | brk => exact False.elim hq'
    | cont => exact False.elim hq'
end
theorem fnS {CX : CXT} {P : Program} {w : World} {K : PySem.W.Frag} {mg : Str → Option Value} {base : Heap} {x qual : Str} {params : Arguments} {body : List Stmt} {scope : Scope} {f : Addr} {fd : FuncData} {N ps : List Str} {pv : Str} {k : Nat} {sp : Sp}
    (F : FunD K x qual params body scope [] [] f fd) (S : FnScope N (ps ++ [pv]) scope) (hCX : StX.CXUp CX)
    (hb : ∀ (kV doc pm : Value) (an : Option Addr) (cdv ct : Value) (us rest : List Value), us.length = ps.length → bindArgs (PySem.W.fnOf x qual params body scope .none kV doc pm an cdv ct) ⟨us ++ rest, []⟩ = (newTuple rest >>= fun t => pure (ps.zip us ++ [(pv, t)])))
    (hbody : ∀ (cdv : Value) (A : Around) (outer : List Env) (s : Shared) (H : Hp) (vs : List V) (Q : VK) (E : XK), Room k (A.deeper (envOfC qual scope s.heap.objs.size f cdv)) → sp vs H Q E →
      ∃ t, PSs (cxOf CX P w K mg base N qual scope f cdv A outer s H E) body t ∧ t { nx := fun _ H' => Q .non H', rt := Q } (start N vs) H) :
    FnR P w K mg base CX (k + 1) f (fun vs H Q E => ∃ ws rest, vs = ws ++ rest ∧ ws.length = ps.length ∧ rest.length ≤ sizeLine ∧ ∀ p, H p = Option.none → sp (ws ++ [V.ref p]) (upd H p (.tup rest)) Q E) := by
  obtain ⟨oc, od, dV, kV, doc, pm, an, cdv, ct, osl, rfl, lk, hcd, hD, hK⟩ := F.ex
  rcases hD with ⟨_, rfl⟩ | ⟨e, _⟩
  · exact StX.fn_star lk hcd S hCX (hb kV doc pm an cdv ct) (hbody cdv)
  · exact absurd rfl e
def tPR (C : Addr) (sp : Sp) (ta : TE) : TE := fun σ H Q => ta σ H fun x H1 => ∃ a dx fs, x = .ref a ∧ H1 a = some (.ins C dx fs) ∧ sp [.ref a] H1 Q (fun _ _ _ => False)
section
variable {X : Cx} {k : Nat} {C p g : Addr} {f : Str} {sp : Sp} {e : Expr} {pos : Pos} {ta : TE}
theorem pe_propR (he : PE X e ta) (c : Cls X.K C) (hp : PropOf X.K C f p g) (F : FnR X.prog X.w X.K X.mg X.base CX0 k g sp) (hr : Room (k + 1) X.A) (hab : attributeBase e f X.env (eval e X.env) = eval e X.env := by rfl) : PE X (.Attribute e f pos) (tPR C sp ta) := by
  refine ⟨fun pins s σ H Q I0 h => ?_⟩
  refine attr_of hab (thn (he.run pins s σ H _ I0 h) fun u s1 ⟨x, H1, I, rx, a, dx, fs, ex, ea, q⟩ => ?_)
  subst ex
  obtain rfl : u = Value.ref a := rx
  obtain ⟨mA, O, _, _, _, _⟩ := ins_get I.hok ea
  obtain ⟨od, J, _⟩ := O.look
  obtain ⟨rest, hrec⟩ := hp.rec_
  have I1 := I.tok (s1.toks + 1)
  have hc : (PySem.W.clsIn X.K C).isSome = true := by
    obtain ⟨cd, hc, _⟩ := PySem.W.any_some c.hd
    rw [hc]
    rfl
  refine PySem.W.get_bind I.kIn J (PySem.W.plainGet_of (c.get f)).1 (PySem.W.findObj_data hc hp.at_ hp.get hp.tak) (PySem.W.plainGet_of (c.get f)).2 (wpAny_call (PySem.W.prop_get (s := { s1 with toks := s1.toks + 1 }) I.kIn hrec ?_))
  refine codeAny_mono (F X.A.in1 X.stack { s1 with toks := s1.toks + 1 } H1 [.ref a] [.ref a] Q (fun _ _ _ => False) hr.in1 I1.env0.in1 (.cons rfl .nil) q) fun r s' hq => ?_
  cases r with
  | error er => exact False.elim hq
  | ok fl =>
    cases fl with
    | ret u =>
      obtain ⟨v, H', I3, rv, q3⟩ := I1.after hq
      show wpAny _ _ (handedOut u) _ _ _
      rw [PySem.W.handedOut_of (handed_of rv)]
      exact wpAny_pure ⟨v, H', I3, rv, q3⟩
    | next => exact False.elim hq
    | brk => exact False.elim hq
    | cont => exact False.elim hq
end
def rOwnIn (C : Addr) (neg : Bool) (sp : Sp) : R2 := fun x y H Q => ∃ a dx fs, y = V.ref a ∧ H a = some (.ins C dx fs) ∧ sp [.ref a, x] H (fun v H1 => ∃ b, v = V.bl b ∧ Q (.bl (if neg then !b else b)) H1) (fun _ _ _ => False)
section
variable {X : Cx} {k : Nat} {C f : Addr} {sp : Sp}
theorem own_in_run {pins : List (Addr × Obj)} {s : Shared} {σ : L2.St} {H : Hp} {x y : V} {v u : Value} {Q : VK} {neg : Bool} (hm : Meth X.K C "__contains__" f) (F : FnR X.prog X.w X.K X.mg X.base CX0 k f sp) (hr : Room k X.A) (I : Inv X pins σ H s) (rx : RelV x v) (ry : RelV y u) (h : rOwnIn C neg sp x y H Q) :
    ∃ a ox od, u = .ref a ∧ PySem.W.InstAt s.heap a ox C od ∧ wpAny (model X.prog X.w) X.A (call (.ref f) [.ref a, v]) (fun r s' => wpAny (model X.prog X.w) X.A (truthy r) (fun b s2 => EP X pins σ Q (.bool (if neg then !b else b)) s2) X.xe s') X.xe s := by
  obtain ⟨a, dx, fs, rfl, ea, q⟩ := h
  obtain rfl : u = Value.ref a := ry
  obtain ⟨mA, O, _, _, _, _⟩ := ins_get I.hok ea
  obtain ⟨od, J, _⟩ := O.look
  refine ⟨a, _, _, rfl, J, ?_⟩
  refine wpAny_call (codeAny_mono (F X.A X.stack s H [.ref a, v] [.ref a, x] _ (fun _ _ _ => False) hr I.env0 (.cons rfl (.cons rx .nil)) q) fun r s' hq => ?_)
  cases r with
  | error er => exact False.elim hq
  | ok fl =>
    cases fl with
    | ret u =>
      obtain ⟨w, H', I3, rv, b, ew, q3⟩ := I.after hq
      subst ew
      obtain rfl : u = Value.bool b := rv
      exact wpAny_truthy_bool ⟨.bl (if neg then !b else b), H', I3, rfl, q3⟩
    | next => exact False.elim hq
    | brk => exact False.elim hq
    | cont => exact False.elim hq
theorem op_ownIn (hm : Meth X.K C "__contains__" f) (F : FnR X.prog X.w X.K X.mg X.base CX0 k f sp) (hr : Room k X.A) : OpR X (compareOp .In) (rOwnIn C false sp) := by
  intro pins s σ H x y v u Q I rx ry h
  obtain ⟨a, ox, od, rfl, J, hw⟩ := own_in_run hm F hr I rx ry h
  obtain ⟨m, hF⟩ := I.fr
  exact PySem.W.in_K hF I.ok.mod.kin J hm.at_ hm.fn hw
theorem op_ownNotIn (hm : Meth X.K C "__contains__" f) (F : FnR X.prog X.w X.K X.mg X.base CX0 k f sp) (hr : Room k X.A) : OpR X (compareOp .NotIn) (rOwnIn C true sp) := by
  intro pins s σ H x y v u Q I rx ry h
  obtain ⟨a, ox, od, rfl, J, hw⟩ := own_in_run hm F hr I rx ry h
  obtain ⟨m, hF⟩ := I.fr
  exact PySem.W.notIn_K hF I.ok.mod.kin J hm.at_ hm.fn hw
end
def ItN (n : Nat) (l it : Addr) : HO := .ext fun h => h.get? it = some (GNX.itObj l 0) ∧ n ≤ it
def rIterN (K : PySem.W.Frag) (n : Nat) : List V → Hp → VK → Prop := fun xs H Q => ∃ (l : Addr) (zs : List V), xs = [.ref l] ∧ SqL K H l zs ∧ ∀ it, H it = none → Q (.ref it) (upd H it (ItN n l it))
theorem itN_ok {P : Program} {w : World} {H : Hp} {h : Heap} {n : Nat} {l it : Addr} (e : h.get? it = some (GNX.itObj l 0)) (hn : n ≤ it) : ObjOk P w H h it (ItN n l it) := ⟨⟨e, hn⟩, ⟨_, e⟩, fun h1 h2 q k => ⟨k _ q.1, q.2⟩⟩
theorem call_iterN {X : Cx} {n : Nat} (hn : n ≤ X.s_0.heap.objs.size) : CallR X (.builtin "iter") (rIterN X.K n) := by
  intro pins s σ H xs us Q I r h
  obtain ⟨l, zs, rfl, hq, q⟩ := h
  obtain rfl := Vals.ref1 r
  obtain ⟨its, rv, pl, hz⟩ := I.list hq
  refine GNX.call_iter pl.isList ?_
  exact ⟨.ref s.heap.objs.size, _, I.laid (t' := s.toks) (fun b u e => Heap.get?_push_of_some _ e) (Nat.le_refl _) (itN_ok (Heap.get?_push_size _ rfl) (Nat.le_trans hn I.sz)), rfl, q _ (I.hok.fresh (Nat.le_refl _))⟩
def FnI (P : Program) (w : World) (K : PySem.W.Frag) (mg : Str → Option Value) (base : Heap) (k : Nat) (f C : Addr) (fld : Str) : Prop :=
  ∀ (A : Around) (outer : List Env) (s : Shared) (H : Hp) (a dx l : Addr) (fs : List (Str × V)) (xs : List V), Room k A → Env0 P w K mg base A outer s H → H a = some (.ins C dx fs) → fs.lookup fld = some (.ref l) → SqL K H l xs →
    codeAny (model P w) A (.call (.ref f) ⟨[.ref a], []⟩) (fun r s' => match r with
      | .ok (.ret u) => ∃ it, u = .ref it ∧ s.heap.objs.size ≤ it ∧ s'.heap.get? it = some (GNX.itObj l 0) ∧ CE outer P w H s (fun v H' => H' = H ∧ v = .non) .none s'
      | _ => False) s
theorem fnI_ok {P : Program} {w : World} {K : PySem.W.Frag} {mg : Str → Option Value} {base : Heap} {x qual : Str} {params : Arguments} {body : List Stmt} {scope : Scope} {f C : Addr} {fd : FuncData} {N : List Str} {k : Nat} {sf fld : Str} {kws : List (Str × V)}
    (F : FunD K x qual params body scope [] kws f fd) (S : FnScope N [sf] scope) (hc : Cls K C) (hna : NoAttr K C fld)
    (hb : ∀ (kV doc pm : Value) (an : Option Addr) (cdv ct : Value) (u : Value), bindArgs (PySem.W.fnOf x qual params body scope .none kV doc pm an cdv ct) ⟨[u], []⟩ = pure [(sf, u)])
    (hbody : ∀ (n : Nat) (cdv : Value) (A : Around) (outer : List Env) (s : Shared) (H : Hp) (E : XK), n ≤ s.heap.objs.size → PSs (cxOf CX0 P w K mg base N qual scope f cdv A outer s H E) body (tRet (tCB (rIterN K n) (tCons (tFld K (tVar 0) fld) tNil)))) :
    FnI P w K mg base (k + 1) f C fld := by
  obtain ⟨oc, od, dV, kV, doc, pm, an, cdv, ct, osl, rfl, lk, hcd, hD, hK⟩ := F.ex
  rcases hD with ⟨_, rfl⟩ | ⟨e, _⟩
  · intro A outer s H a dx l fs xs hr e0 ha hl hx
    have KX : K.In s.heap := e0.mod.kin.keeps fun b o e => (e0.bs b o e).1
    have lim : s.heap.NoLimit := e0.mod.nolimit.keeps fun b o e => (e0.bs b o e).1
    have r : Vals [V.ref a] [Value.ref a] := .cons rfl .nil
    have hkind : ∀ y ∈ [sf].zip [Value.ref a], scope.names.lookup y.1 = some .local ∨ (scope.names.lookup y.1 = some .cell ∧ ((cellsFrom (s.heap.objs.size + 1) scope.names []).lookup y.1).isSome = true) := fun ⟨n, v⟩ hy => by
      rcases S.par n (List.of_mem_zip hy).1 with q | q
      · exact .inl q
      · exact .inr ⟨q, PySem.W.cellsFrom_some _ _ _ (.inl q)⟩
    refine codeAny_call_function hr.depth (KX _ _ lk) rfl S.co S.gen rfl (PySem.W.codeRec_of KX hcd) ?_
    rw [hb]
    refine wpAny_pure (wpAny_newFunctionEnv_cells S.kind hkind fun env he s1 x => ?_)
    subst he
    refine ⟨lim.keeps x.toInCall.keep, codeAny_func ?_⟩
    have I : Inv (cxOf CX0 P w K mg base N qual scope f cdv A outer s H (fun _ _ _ => False)) [] (start N [V.ref a]) H s1 := inv_start S hr.hd e0 rfl r x
    have h0 : (start N [V.ref a])[0]? = some (some (V.ref a)) := rfl
    refine wpAny_mono ((hbody s.heap.objs.size cdv A outer s H (fun _ _ _ => False) (Nat.le_refl _)).run [] s1 (start N [V.ref a]) H { nx := fun _ _ => False, rt := fun v H' => ∃ it, v = .ref it ∧ H it = none ∧ H' = upd H it (ItN s.heap.objs.size l it) } I
      ⟨.ref a, h0, a, C, dx, fs, .ref l, rfl, ha, hc, hna, hl, l, xs, rfl, hx, fun it hit => ⟨it, rfl, hit, rfl⟩⟩) (fun fl s' hs => ?_) fun e s' hs => hs
    cases fl with
    | ret u =>
      obtain ⟨v, σ', H', J, rv, it, ev, hit, eH⟩ := hs
      subst ev eH
      obtain rfl : u = Value.ref it := rv
      have hi := J.hok it _ upd_same
      have J5 := J.os
      refine ⟨it, rfl, hi.1.2, hi.1.1, .non, H, J.os, J.bare, ⟨J.base.keep, J.base.slot, fun b o e n _ => n, J.base.there, fun b xs e => e, fun b o u e => e, fun b ps e => ⟨#[], by rw [Array.append_empty]; exact e⟩⟩, fun b o e => ?_, rfl, rfl, rfl⟩
      have hne : b ≠ it := ne_of_none e hit
      refine (J.hok b o (by rw [upd_ne hne]; exact e)).stay (fun _ _ _ q => q) (fun c q => ?_) (fun c xs q => ?_)
      · by_cases hc : c = it
        · subst hc; rw [upd_same] at q; cases q
        · rwa [upd_ne hc] at q
      · by_cases hc : c = it
        · subst hc; rw [upd_same] at q; cases q
        · rwa [upd_ne hc] at q
    | next => obtain ⟨_, _, _, q⟩ := hs; exact q.elim
    | brk => obtain ⟨_, _, _, q⟩ := hs; exact q.elim
    | cont => obtain ⟨_, _, _, q⟩ := hs; exact q.elim
  · exact absurd rfl e
def iOwn (K : PySem.W.Frag) (C : Addr) (fld : Str) (te : TE) : TI := fun σ H R => te σ H fun x H1 => ∃ a dx fs l xs, x = .ref a ∧ H1 a = some (.ins C dx fs) ∧ fs.lookup fld = some (.ref l) ∧ SqL K H1 l xs ∧ R (Itl K l) H1
theorem pi_own {X : Cx} {tg e : Expr} {te : TE} {k : Nat} {f C : Addr} {fld : Str} (he : PE X e te) (hm : Meth X.K C "__iter__" f) (F : FnI X.prog X.w X.K X.mg X.base k f C fld) (hr : Room k X.A) : PI X tg e (iOwn X.K C fld te) := by
  refine ⟨fun pins s σ H R I0 h => ?_⟩
  refine thn (he.run pins s σ H _ I0 h) fun v s1 ⟨x, H1, I, rx, a, dx, fs, l, xs, ex, ea, hl, hx, q⟩ => ?_
  subst ex
  obtain rfl : v = Value.ref a := rx
  obtain ⟨mA, O, _, _, _, _⟩ := ins_get I.hok ea
  obtain ⟨od, J, _⟩ := O.look
  obtain ⟨m, hF⟩ := I.fr
  refine PySem.W.owit_iter hF I.ok.mod.kin J hm.at_ hm.fn ?_
  refine wpAny_call (codeAny_mono (F X.A X.stack s1 H1 a dx l fs xs hr I.env0 ea hl hx) fun r s' hq => ?_)
  cases r with
  | error er => exact False.elim hq
  | ok fl =>
    cases fl with
    | ret u =>
      obtain ⟨it, rfl, hn, hi, hce⟩ := hq
      obtain ⟨v, H', I3, _, eH, _⟩ := I.after hce
      subst eH
      have hli : s'.heap.IsListIter it l 0 := ⟨_, hi, rfl, rfl⟩
      unfold PySem.W.OwitIt
      refine wpAny_specialOf (T := "list_iterator") ⟨_, hi, rfl⟩ slot_listiter_next.lookup ?_
      refine ⟨it, [it], _, _, H', rfl, I3, turn_list l it, hli, fun b hb => ?_, q⟩
      have e : b = it := by simpa using hb
      subst e
      have f0 := I.fpOk hn (I.hok.fresh hn)
      exact ⟨f0.1, f0.2.1, f0.2.2.1, f0.2.2.2.1, f0.2.2.2.2.1, f0.2.2.2.2.2⟩
    | next => exact False.elim hq
    | brk => exact False.elim hq
    | cont => exact False.elim hq
end Rr
namespace Rt
open PySem PySem.Spec PyProof.Rows L2 L2H HotX
section
variable {X : Cx} {i : Nat} {n : Str} {pos' : Pos} {Wout : WX}
theorem go_on {pins : List (Addr × Obj)} {A1 : Around} {NB : Value → Shared → Prop} {u : Value} {s' : Shared} (hs : X.stack = X.env :: X.outer) (hf : X.env.frame = some X.env.locals) (hex : X.ex = []) (ok : X.Ok) (hfrA : A1.frames = X.A.frames)
    (hN : X.N.Nodup) (hi : X.N[i]? = some n) (hln : X.env.kindOf n = some .local) (tk : L2.Takes X Wout) (hnb : ∀ e s, X.xe e s → NB e s)
    (xx : ∃ (a : Addr) (B : Heap) (sI : Shared) (σ : L2.St) (H : Hp) (cls : Value) (d : Option Addr), u = .ref a ∧ Inv X pins σ H sI ∧ (∀ b o, sI.heap.get? b = some o → b ∉ frs X.stack → B.get? b = some o) ∧ sI.heap.UpToSlots s'.heap ∧
      Sky B X.stack a (Zc cls d) X.env.locals s'.heap ∧ H a = none ∧ s'.os = sI.os ∧ AllBare s'.gens ∧ Wout cls d (σ.set i none) H) {Ey : Value → Shared → Prop} :
    wpAny (model X.prog X.w) A1 (noteFrame u X.env) (fun _ s₃' =>
            wpAny (model X.prog X.w) A1 (do bindName X.env n .none; unbindBehindTheSuite X.env n pos')
              (fun _ s₄ => wpAny (model X.prog X.w) A1 (passOn "try.except-as" u X.env : Sem Flow) (fun _ _ => False) NB s₄) Ey s₃') NB s' := by
  have hfr : A1.frames = some (X.env :: X.outer) := by rw [hfrA, ok.frames, hs]
  obtain ⟨a, B, sI, σ', H', cls, d, rfl, J, nb, up, sky, na, os, ag, hw⟩ := xx
  have sky' : Sky B (X.env :: X.outer) a (Zc cls d) X.env.locals s'.heap := by rw [← hs]; exact sky
  have fin : ∀ h1, HandSPX.HeldZ B (X.env :: X.outer) a (Zc cls d) X.env.locals h1 → s'.heap.UpToSlots h1 → wpAny (model X.prog X.w) A1 (do bindName X.env n .none; unbindBehindTheSuite X.env n pos')
      (fun _ s₄ => wpAny (model X.prog X.w) A1 (passOn "try.except-as" (.ref a) X.env : Sem Flow) (fun _ _ => False) NB s₄) Ey { s' with heap := h1 } := fun h3 fl3 up3 => by
    have J3 : Inv X pins σ' H' { s' with heap := h3 } := J.landed nb fl3.1 (up.trans up3) os ag
    obtain ⟨k1, k2, k3, oe, vs, T, oT, ts, he3, hz, hd, hv1, hnT, hTe, hT, hdT, ht3⟩ := id fl3
    have nT : H' T = none := (J.inGround nb).gone hnT
    have notFr : ∀ (b : Addr) (o : Obj) (fv : Array Value), h3.get? b = some o → o.data = .fields fv → b ∉ frs (X.env :: X.outer) := fun b o fv e dd hm => by
      obtain ⟨_, o', e', hnf⟩ := k3.mem hm
      have eo : o = o' := Option.some.inj (e.symm.trans e')
      rw [← eo] at hnf
      exact hnf _ dd
    have locF : X.env.locals ∈ frs (X.env :: X.outer) := List.mem_filterMap.mpr ⟨X.env, List.mem_cons_self, hf⟩
    have fsF : ∀ b, b ∈ X.fs → b ∈ frs (X.env :: X.outer) := fun b hm => by
      obtain ⟨e, he, q⟩ := List.mem_filterMap.mp hm
      exact List.mem_filterMap.mpr ⟨e, List.mem_cons_of_mem _ he, q⟩
    have fa := notFr a oe vs he3 hd
    have fT := notFr T oT ts hT hdT
    have S3 : Inv X ((a, oe) :: (T, oT) :: pins) σ' H' { s' with heap := h3 } :=
      ⟨J3.ok, J3.os, J3.bare, J3.base, J3.loc, J3.cell, J3.free, J3.freeC, fun p hp => by
        rcases List.mem_append.mp hp with z | hp
        · exact J3.pin p (List.mem_append_left _ z)
        rcases List.mem_cons.mp hp with z | hp
        · rw [z]
          exact ⟨he3, na, fun z2 => fa (by rw [show a = X.env.locals from z2]; exact locF), fun z2 => fa (fsF _ z2), fun v z2 => by
            have z3 : oe.data = .cell v := z2
            rw [hd] at z3
            cases z3⟩
        · rcases List.mem_cons.mp hp with z | hp
          · rw [z]
            exact ⟨hT, nT, fun z2 => fT (by rw [show T = X.env.locals from z2]; exact locF), fun z2 => fT (fsF _ z2), fun v z2 => by
              have z3 : oT.data = .cell v := z2
              rw [hdT] at z3
              cases z3⟩
          · exact J3.pin p (List.mem_append_right _ hp), J3.hok, J3.len⟩
    refine gone_ok S3 hN hi hln fun s6 S6 => ?_
    have J6 : Inv X pins (σ'.set i none) H' s6 := ⟨ok, S6.os, S6.bare, S6.base, S6.loc, S6.cell, S6.free, S6.freeC, fun p hp => S6.pin p (by
      rcases List.mem_append.mp hp with z | z
      · exact List.mem_append_left _ z
      · exact List.mem_append_right _ (List.mem_cons_of_mem _ (List.mem_cons_of_mem _ z))), S6.hok, S6.len⟩
    have pa := S6.pin (a, oe) (List.mem_append_right _ List.mem_cons_self)
    have pT := S6.pin (T, oT) (List.mem_append_right _ (List.mem_cons_of_mem _ List.mem_cons_self))
    have ga : s6.heap.get? a = some oe := pa.1
    have gT : s6.heap.get? T = some oT := pT.1
    have far : ∀ b o, sI.heap.get? b = some o → b ≠ a ∧ b ≠ T := fun b o e => by
      by_cases hb : b ∈ frs X.stack
      · rw [hs] at hb
        exact ⟨fun z => fa (by rw [← z]; exact hb), fun z => fT (by rw [← z]; exact hb)⟩
      · have q := nb b o e hb
        exact ⟨fun z => by
          rw [z, k2] at q
          exact (nomatch q), fun z => by
          rw [z, hnT] at q
          cases q⟩
    have far0 : ∀ b o, X.s_0.heap.get? b = some o → b ≠ a ∧ b ≠ T := fun b o e => by
      obtain ⟨o', q⟩ := J.base.there b o e (by rw [hex]; simp)
      exact far b o' q
    have farP : ∀ p ∈ X.pn ++ pins, p.1 ≠ a ∧ p.1 ≠ T := fun p hp => far p.1 p.2 (J.pin p hp).1
    obtain ⟨G, g1, g2⟩ := restrict s6.heap fun b => !(decide (b = a) || decide (b = T))
    have gIn : ∀ b o, G.get? b = some o → s6.heap.get? b = some o ∧ b ≠ a ∧ b ≠ T := fun b o e => by
      cases q : (!(decide (b = a) || decide (b = T))) with
      | false =>
        rw [g2 b q] at e
        cases e
      | true =>
        rw [g1 b q] at e
        simp only [Bool.not_eq_true', Bool.or_eq_false_iff, decide_eq_false_iff_not] at q
        exact ⟨e, q.1, q.2⟩
    have gOf : ∀ b o, b ≠ a → b ≠ T → s6.heap.get? b = some o → G.get? b = some o := fun b o h1 h2 e => by
      rw [g1 b (by simp [h1, h2])]
      exact e
    have I6 : Inv X pins (σ'.set i none) H' { s6 with heap := G } := J6.less (fun b o e => (gIn b o e).1) gOf ⟨oe, vs, ga, hd⟩ ⟨oT, ts, gT, hdT⟩ na nT far0 farP
    have B6in : ∀ b o, (PySem.W.hideAll G (frs X.stack)).get? b = some o → s6.heap.get? b = some o := fun b o e => (gIn b o (PySem.W.of_hideAll _ e)).1
    have Bno : ∀ b, (b = a ∨ b = T) → (PySem.W.hideAll G (frs X.stack)).get? b = none := fun b hb => by
      cases q : (PySem.W.hideAll G (frs X.stack)).get? b with
      | none => rfl
      | some o =>
        obtain ⟨_, n1, n2⟩ := gIn b o (PySem.W.of_hideAll _ q)
        rcases hb with z | z
        · exact absurd z n1
        · exact absurd z n2
    have ff6 : s6.heap.FunFrames (PySem.W.hideAll G (frs X.stack)) (X.env :: X.outer) := by
      have ff := funFrames_none (B := PySem.W.hideAll G (frs X.stack)) J6.stack fun b hb => PySem.W.hideAll_none _ hb
      rw [← hs]
      exact ff
    have tr6 : HandSPX.TracedZ s6.heap (PySem.W.hideAll G (frs X.stack)) a (Zc cls d) (rawInt X.env.locals) := ⟨oe, vs, T, oT, ts, ga, hz, hd, hv1, Bno T (.inr rfl), hTe, gT, hdT, ht3⟩
    unfold PySem.passOn
    refine wpAny_bind (wpAny_field ga hd hv1 ?_)
    rw [if_neg (show ¬ ((Value.ref T == Value.none) = true) from by simp)]
    have goOn : wpAny (model X.prog X.w) A1 (setFlight (.ref a) X.env.frame) (fun _ s7 => wpAny (model X.prog X.w) A1 (throw (.ref a) : Sem Flow) (fun _ _ => False) NB s7) NB s6 := by
      rw [hf]
      refine HandSPX.setFlight_anyZ B6in ff6 tr6 fun h7 q1 q2 q3 up7 => wpAny_throw (hnb _ _ (tk _ _ ?_))
      refine ⟨a, PySem.W.hideAll G (frs X.stack), { s6 with heap := G }, pins, _, H', cls, d, rfl, I6, fun b o e hb => PySem.W.hideAll_get _ e hb, ?_, .inr (.inr ?_), na, rfl, J6.bare, hw⟩
      · exact Heap.UpToSlots.trans (Heap.UpToSlots.of_keeps fun b o e => (gIn b o e).1) up7
      · have hh7 : HandSPX.HeldZ (PySem.W.hideAll G (frs X.stack)) (X.env :: X.outer) a (Zc cls d) X.env.locals h7 := ⟨q1, Bno a (.inl rfl), q2, q3⟩
        rw [← hs] at hh7
        exact hh7
    first
      | exact wpAny_bind (wpAny_pure (wpAny_bind goOn))
      | exact wpAny_bind goOn
  rcases sky' with ⟨hB, hn, hl, oe, vs, he0, hz, hd, hv1⟩ | fl | hh
  · exact HandSPX.look_newZ Zc.steady hfr hl hf he0 hB hn hd hv1 hz fin
  · exact HandSPX.looks_onZ Zc.steady hfr hf fl fin
  · exact HandSPX.againZ hf hh.2.2.2 (fin s'.heap hh (Heap.UpToSlots.refl _))
end
abbrev suS (X : Cx) (a : Addr) (pn : List (Addr × Obj)) (xe : Value → Shared → Prop) : Cx := { X with A := X.A.mark (some (.ref a)), calm := false, pn := pn, xe := xe }
def wGone (i : Nat) (Wout : WX) : WX := fun cls d σ H => Wout cls d (σ.set i none) H
section
variable {X : Cx} {x n : Str} {c : Value} {i : Nat} {body suite : List Stmt} {b₀ : Stmt} {np pos pos' : Pos} {tb : WX → TS} {ts : Addr → Value → Option Addr → TS} {Wout : WX}
theorem ps_try_asX (hs : X.stack = X.env :: X.outer) (hf : X.env.frame = some X.env.locals) (hex : X.ex = []) (hN : X.N.Nodup) (hi : X.N[i]? = some n) (hln : X.env.kindOf n = some .local) (hc : L2.Names X x c) (hpa : ∀ hd : Option Value, PassesOwnAt (model X.prog X.w) (X.A.mark hd) X.A X.env X.xe) (tk : L2.Takes X Wout)
    (hb : ∀ (W : WX) (pn : List (Addr × Obj)) (xe : Value → Shared → Prop), L2N.Takes (X.tr pn xe) W → PassesOwn (model X.prog X.w) X.A X.env xe → PSs (X.tr pn xe) body (tb W))
    (hsu : ∀ (a : Addr) (oe : Obj) (cls : Value) (d : Option Addr) (pn : List (Addr × Obj)) (xe : Value → Shared → Prop), L2N.Zn cls d oe → (∃ vs, oe.data = .fields vs) → L2.Takes (suS X a ((a, oe) :: pn) xe) (wGone i Wout) → HotC (suS X a ((a, oe) :: pn) xe) →
      PSs (suS X a ((a, oe) :: pn) xe) (b₀ :: suite) (ts a cls d)) :
    PS X (.Try body [.ExceptHandler (some (.Name x np)) (some n) (b₀ :: suite) pos'] [] [] pos) (fun D σ H => tb (L2.wAs X.K c i ts Wout D) D σ H) := by
  refine ⟨fun pins s σ H D I h => ?_⟩
  have ok := I.ok
  have hfr : X.A.frames = some (X.env :: X.outer) := by rw [ok.frames, hs]
  have hloc : Loc X.env.scope n := .inl hln
  refine wpAny_Try_except ?_
  refine wpAny_mono ((hb (L2.wAs X.K c i ts Wout D) (X.pn ++ pins) (fun e s₁ => wpAny (model X.prog X.w) X.A (noteFrame e X.env) (fun _ s₂ => wpAny (model X.prog X.w) X.A (setFlight e none) (fun _ s₃ =>
    wpAny (model X.prog X.w) X.A (handleBy e X.env [.ExceptHandler (some (.Name x np)) (some n) (b₀ :: suite) pos']) (SP X pins D) X.xe s₃) X.xe s₂) X.xe s₁) (fun u s' xx => ?_) PassesOwn.looking).run [] s σ H D (I.toTry _) h) (fun f s1 hsp => ?_) (fun e s1 he => he)
  · obtain ⟨a, B, sI, pins', σ', H', cls, d, rfl, J', nb, up, sky, na, os, ag, b, hb1, hyes, hno⟩ := xx
    have J : Inv X pins σ' H' sI := J'.ofTry ok
    have sky' : Sky B (X.env :: X.outer) a (L2N.Zn cls d) X.env.locals s'.heap := by rw [← hs]; exact sky
    show wpAny (model X.prog X.w) X.A (noteFrame (.ref a) X.env) _ _ _
    refine L2N.Sky.land L2N.Zn.steady hfr hf sky' fun h3 fl3 up3 => ?_
    have J3 : Inv X pins σ' H' { s' with heap := h3 } := J.landed nb fl3.1 (up.trans up3) os ag
    obtain ⟨oe3, vs3, he3, hz3, hd3⟩ := fl3.there
    have notFr : ∀ {h : Heap} {o : Obj} {vs : Array Value}, h.FunFrames B (X.env :: X.outer) → h.get? a = some o → o.data = .fields vs → a ∉ frs (X.env :: X.outer) := fun {h o vs} ff e dd hm => by
      obtain ⟨_, o', e', hnf⟩ := ff.mem hm
      rw [e] at e'; cases e'
      exact hnf _ dd
    have nfr := notFr fl3.2.2.1 he3 hd3
    have nL : a ≠ X.env.locals := fun z => nfr (List.mem_filterMap.mpr ⟨X.env, List.mem_cons_self, by rw [hf, z]⟩)
    have nF : a ∉ X.fs := fun hm => by
      obtain ⟨e, he, q⟩ := List.mem_filterMap.mp hm
      exact nfr (List.mem_filterMap.mpr ⟨e, List.mem_cons_of_mem _ he, q⟩)
    have S3 := J3.suite he3 hd3 na nL nF
    refine wpAny_handleBy_cons (codeAny_handlers_test ?_) (by intro q; cases q)
    have LT : PySem.W.Looks (model X.prog X.w) h3 (typeOf (.ref a)) cls := fun A Q E s k q => wpAny_typeOf_ref (k _ _ he3) (by rw [hz3.1]; exact q)
    have LM := PySem.W.exm_one (M := model X.prog X.w) (J3.kIn) LT hb1
    have test : ∀ {Q : Value → Shared → Prop} {E : Value → Shared → Prop}, Q c { s' with heap := h3 } → wpAny (model X.prog X.w) (X.A.mark (some (.ref a))) (eval (.Name x np) X.env) Q E { s' with heap := h3 } := fun {Q E} q => by
      obtain ⟨hg, hdbg, hm | ⟨hm, hv, hnn⟩⟩ := hc
      · exact ld_glob (X := X.suite a ((a, oe3) :: (X.pn ++ pins))) S3 hg hm q hdbg
      · exact ld_blt (X := X.suite a ((a, oe3) :: (X.pn ++ pins))) S3 hg hm hv q hnn hdbg
    refine test (LM.here ?_)
    cases b with
    | true =>
      refine codeAny_handlers_suite_as ?_
      refine HandSPX.lands_againZ (e := a) (Z := L2N.Zn cls d) fl3 fun h4 fl4 up4 => ?_
      have J4 : Inv X pins σ' H' { s' with heap := h4 } := J.landed nb fl4.1 ((up.trans up3).trans up4) os ag
      obtain ⟨oe4, vs4, he4, hz4, hd4⟩ := fl4.there
      have S4 := J4.suite he4 hd4 na nL nF
      refine store_ok (X := X.suite a ((a, oe4) :: (X.pn ++ pins))) (v := .ref a) S4 hN hi hloc rfl (fun s5 S5 => ?_) (.inr hln)
      have tkS : ∀ xe : Value → Shared → Prop, (∀ u s6, (∃ (a2 : Addr) (B2 : Heap) (sI2 : Shared) (σ2 : L2.St) (H2 : Hp) (cls2 : Value) (d2 : Option Addr), u = .ref a2 ∧ Inv X pins σ2 H2 sI2 ∧ (∀ b o, sI2.heap.get? b = some o → b ∉ frs X.stack → B2.get? b = some o) ∧ sI2.heap.UpToSlots s6.heap ∧
          Sky B2 X.stack a2 (Zc cls2 d2) X.env.locals s6.heap ∧ H2 a2 = none ∧ s6.os = sI2.os ∧ AllBare s6.gens ∧ Wout cls2 d2 (σ2.set i none) H2) → xe u s6) → L2.Takes (suS X a ((a, oe4) :: (X.pn ++ pins)) xe) (wGone i Wout) := fun xe hxe u2 s2 x2 => by
        obtain ⟨a2, B2, sI2, pn2, σ2, H2, cls2, d2, e2, I2, nb2, up2, sky2, na2, os2, ag2, w2⟩ := x2
        refine hxe u2 s2 ⟨a2, B2, sI2, σ2, H2, cls2, d2, e2, ?_, nb2, up2, sky2, na2, os2, ag2, w2⟩
        exact Inv.unsuite (X := X) (a := a) (q := (a, oe4)) (pn' := pn2) (show Inv (X.suite a ((a, oe4) :: (X.pn ++ pins))) pn2 σ2 H2 sI2 from (show Inv (suS X a ((a, oe4) :: (X.pn ++ pins)) xe) pn2 σ2 H2 sI2 from I2).wish fun _ _ => False) ok
      have hot : ∀ xe, HotC (suS X a ((a, oe4) :: (X.pn ++ pins)) xe) := fun xe => ⟨(a, oe4), ⟨rfl, vs4, hd4, hz4.2.2 vs4 hd4⟩, List.mem_cons_self⟩
      have end_ : ∀ {xe : Value → Shared → Prop} {A1 : Around} {E1 : Value → Shared → Prop} {σ6 : L2.St} {H6 : Hp} {s6 : Shared} {Q : Shared → Prop}, Inv (suS X a ((a, oe4) :: (X.pn ++ pins)) xe) [] σ6 H6 s6 → (∀ s7, Inv X pins (σ6.set i none) H6 s7 → Q s7) →
          wpAny (model X.prog X.w) A1 (do bindName X.env n .none; unbindBehindTheSuite X.env n pos') (fun _ s7 => Q s7) E1 s6 := fun {xe A1 E1 σ6 H6 s6 Q} S6 hq =>
            gone_ok (Inv.unsuite (X := X) (a := a) (q := (a, oe4)) (pn' := []) (show Inv (X.suite a ((a, oe4) :: (X.pn ++ pins))) [] σ6 H6 s6 from S6.wish fun _ _ => False) ok) hN hi hln hq
      refine wpAny_mono ((hsu a oe4 cls d (X.pn ++ pins) _ hz4 ⟨_, hd4⟩ (tkS _ fun u s6 x6 => ?_) (hot _)).run [] s5 _ H' _ (Inv.unwish (X := suS X a ((a, oe4) :: (X.pn ++ pins)) _) (E := fun _ _ => False) S5) (hyes rfl a na)) (fun f s6 hsp => ?_) (fun e6 s6 z => z)
      · exact go_on (A1 := X.A.mark (some (.ref a))) hs hf hex ok rfl hN hi hln tk (hpa (some (.ref a))) x6
      · cases f with
        | next =>
          obtain ⟨σ6, H6, S6, q6⟩ := hsp
          exact end_ S6 fun s7 J7 => ⟨_, _, J7, q6⟩
        | brk =>
          obtain ⟨σ6, H6, S6, q6⟩ := hsp
          exact end_ S6 fun s7 J7 => ⟨_, _, J7, q6⟩
        | cont =>
          obtain ⟨σ6, H6, S6, q6⟩ := hsp
          exact end_ S6 fun s7 J7 => ⟨_, _, J7, q6⟩
        | ret u =>
          obtain ⟨v6, σ6, H6, S6, r6, q6⟩ := hsp
          exact end_ S6 fun s7 J7 => ⟨_, _, _, J7, r6, q6⟩
    | false =>
      show wpAny _ X.A (handleBy (.ref a) X.env []) _ _ _
      refine wpAny_handleBy_nil ?_
      obtain ⟨k1, k2, k3, oe, vs, T, oT, ts', he, hz, hd, h1, hr⟩ := id fl3
      unfold PySem.passOn
      refine wpAny_bind (wpAny_field he hd h1 ?_)
      rw [if_neg (show ¬ ((Value.ref T == Value.none) = true) from by simp)]
      have fl3' : HandSPX.FlyingZ B (X.env :: X.outer) a (Zc cls d) h3 := flyingZ_imp (fun o z => z.zc) fl3
      have fin : wpAny (model X.prog X.w) X.A (setFlight (.ref a) X.env.frame) (fun _ s4 => wpAny (model X.prog X.w) X.A (throw (.ref a) : Sem Flow) (SP X pins D) X.xe s4) X.xe { s' with heap := h3 } := by
        rw [hf]
        refine HandSPX.setFlight_upZ fl3' fun h4 hh4 up4 => wpAny_throw (tk _ _ ?_)
        exact ⟨a, B, sI, pins, σ', H', cls, d, rfl, J, nb, (up.trans up3).trans up4, .inr (.inr (by rw [hs]; exact hh4)), na, os, ag, hno rfl⟩
      first
        | exact wpAny_bind (wpAny_pure (wpAny_bind fin))
        | exact wpAny_bind fin
  · cases f with
    | next =>
      obtain ⟨σ', H', J', q⟩ := hsp
      exact wpAny_execs_nil ⟨σ', H', J'.ofTry ok, q⟩
    | brk =>
      obtain ⟨σ', H', J', q⟩ := hsp
      exact ⟨σ', H', J'.ofTry ok, q⟩
    | cont =>
      obtain ⟨σ', H', J', q⟩ := hsp
      exact ⟨σ', H', J'.ofTry ok, q⟩
    | ret u =>
      obtain ⟨v, σ', H', J', r, q⟩ := hsp
      exact ⟨v, σ', H', J'.ofTry ok, r, q⟩
end
def causeFrom (h : Heap) (a c : Addr) : Heap := (h.update a (Obj.mapFields (·.setIfInBounds 3 (.ref c)))).update a (Obj.mapFields (·.setIfInBounds 4 (.bool true)))
theorem cause_at {h : Heap} {a c : Addr} {oe : Obj} {vs : Array Value} (ha : h.get? a = some oe) (hd : oe.data = .fields vs) :
    (causeFrom h a c).get? a = some ((oe.mapFields (·.setIfInBounds 3 (.ref c))).mapFields (·.setIfInBounds 4 (.bool true))) ∧ ((oe.mapFields (·.setIfInBounds 3 (.ref c))).mapFields (·.setIfInBounds 4 (.bool true))).data = .fields ((vs.setIfInBounds 3 (.ref c)).setIfInBounds 4 (.bool true)) := by
  have hd3 := Obj.data_mapFields hd (·.setIfInBounds 3 (Value.ref c))
  have ha3 := Heap.get?_update_self (Obj.mapFields (·.setIfInBounds 3 (Value.ref c))) ha (Obj.isFreed_of_fields hd3)
  have hd4 := Obj.data_mapFields hd3 (·.setIfInBounds 4 (.bool true))
  exact ⟨Heap.get?_update_self (Obj.mapFields (·.setIfInBounds 4 (.bool true))) ha3 (Obj.isFreed_of_fields hd4), hd4⟩
theorem cause_other {h : Heap} {a b c : Addr} (hne : a ≠ b) : (causeFrom h a c).get? b = h.get? b := by
  unfold causeFrom
  rw [Heap.get?_update_other _ _ hne, Heap.get?_update_other _ _ hne]
theorem raise_made_hotF {prog : Program} {w : World} {A : Around} {E : Value → Shared → Prop} {env : Env} {s : Shared} {x c : Sem Value} {Q : Flow → Shared → Prop} {x1 : Addr}
    (h : wpAny (model prog w) A x (fun v s₁ => ∃ a oe vs cls cls1, v = .ref a ∧ s₁.heap.get? a = some oe ∧ oe.cls = cls ∧ oe.data = .fields vs ∧ vs[1]? = some .none ∧ 4 < vs.size ∧ x1 ≠ a ∧ HotAt A x1 s₁.heap ∧
      (∀ (Q' : Value → Shared → Prop), Q' (.ref x1) s₁ → wpAny (model prog w) A c Q' E s₁) ∧ (∃ o1, s₁.heap.get? x1 = some o1 ∧ o1.cls = cls1) ∧ PySem.W.Looks (model prog w) s₁.heap (isSubtype cls1 (.type "BaseException")) true ∧
      PySem.W.Looks (model prog w) s₁.heap (isSubtype cls (.type "BaseException")) true ∧ PySem.W.Looks (model prog w) (causeFrom s₁.heap a x1) (typeOf cls) (.type "type") ∧
      E (.ref a) { s₁ with heap := (causeFrom s₁.heap a x1).update a (Obj.mapFields (·.setIfInBounds 2 (.ref x1))) }) E s) :
    wpAny (model prog w) A (raiseStmt env (some x) (some c)) Q E s := by
  unfold raiseStmt
  dsimp only
  refine wpAny_bind (wpAny_mono h (fun v s₁ h₁ => ?_) fun _ _ x => x)
  obtain ⟨a, oe, vs, cls, cls1, rfl, ha, hcls, hd, h1, hi, hne, hot, hcs, ⟨o1, ho1, hc1⟩, LC1, L1, L3, hE⟩ := h₁
  have LT : PySem.W.Looks (model prog w) s₁.heap (typeOf (.ref a)) cls := fun A Q E s k q => wpAny_typeOf_ref (k _ _ ha) (by rw [hcls]; exact q)
  have LI : PySem.W.Looks (model prog w) s₁.heap (isInstance (.ref a) (.type "BaseException")) true := LT.andThen L1
  have LTc : PySem.W.Looks (model prog w) s₁.heap (typeOf (.ref x1)) cls1 := fun A Q E s k q => wpAny_typeOf_ref (k _ _ ho1) (by rw [hc1]; exact q)
  have LIc : PySem.W.Looks (model prog w) s₁.heap (isInstance (.ref x1) (.type "BaseException")) true := LTc.andThen LC1
  obtain ⟨hot1, oH, vsH, hoH, hdH, hvH⟩ := id hot
  obtain rfl : oH = o1 := Option.some.inj (hoH.symm.trans ho1)
  have hnt : ∀ {Q' : Bool → Shared → Prop}, Q' false s₁ → wpAny (model prog w) A (isType (.ref a)) Q' E s₁ := by
    intro Q' hq
    simp only [isType, loadHead]
    refine wpAny_bind (wpAny_loadPart ha ?_)
    rw [hd]; exact wpAny_pure hq
  have hntc : ∀ {Q' : Bool → Shared → Prop}, Q' false s₁ → wpAny (model prog w) A (isType (.ref x1)) Q' E s₁ := by
    intro Q' hq
    simp only [isType, loadHead]
    refine wpAny_bind (wpAny_loadPart ho1 ?_)
    rw [hdH]; exact wpAny_pure hq
  have hd3 := Obj.data_mapFields hd (·.setIfInBounds 3 (Value.ref x1))
  have ha3 := Heap.get?_update_self (Obj.mapFields (·.setIfInBounds 3 (Value.ref x1))) ha (Obj.isFreed_of_fields hd3)
  obtain ⟨ha4, hd4⟩ := cause_at (c := x1) ha hd
  have s3 : 3 < vs.size := by omega
  have s4 : 4 < (vs.setIfInBounds 3 (Value.ref x1)).size := by rw [set_size]; exact hi
  have s2 : 2 < ((vs.setIfInBounds 3 (Value.ref x1)).setIfInBounds 4 (Value.bool true)).size := by rw [set_size, set_size]; omega
  have h14 : ((vs.setIfInBounds 3 (Value.ref x1)).setIfInBounds 4 (Value.bool true))[1]? = some Value.none := set_other (by decide) (set_other (by decide) h1)
  have hcls4 : ((oe.mapFields (·.setIfInBounds 3 (Value.ref x1))).mapFields (·.setIfInBounds 4 (.bool true))).cls = cls := by rw [Obj.cls_mapFields, Obj.cls_mapFields]; exact hcls
  have LT4 : PySem.W.Looks (model prog w) (causeFrom s₁.heap a x1) (typeOf (.ref a)) cls := fun A Q E s k q => wpAny_typeOf_ref (k _ _ ha4) (by rw [hcls4]; exact q)
  have hnt4 : ∀ {Q' : Bool → Shared → Prop}, Q' false { s₁ with heap := causeFrom s₁.heap a x1 } → wpAny (model prog w) A (isType (.ref a)) Q' E { s₁ with heap := causeFrom s₁.heap a x1 } := by
    intro Q' hq
    simp only [isType, loadHead]
    refine wpAny_bind (wpAny_loadPart ha4 ?_)
    rw [hd4]; exact wpAny_pure hq
  have hot4 : HotAt A x1 (causeFrom s₁.heap a x1) := by
    obtain ⟨q1, o, vs', q2, q3, q4⟩ := hot
    exact ⟨q1, o, vs', by rw [cause_other (Ne.symm hne)]; exact q2, q3, q4⟩
  have rest : wpAny (model prog w) A (do
      let b ← isType (.ref a)
      if b = true then do
        let e ← holding [.ref a] (raisedFor (.ref a) (.ref a))
        setFlight e none
        raiseNew e
      else do
        let e ← raisedInstance (.ref a)
        setFlight e none
        raiseNew e : Sem Flow) Q E { s₁ with heap := causeFrom s₁.heap a x1 } := by
    refine wpAny_bind (hnt4 ?_)
    simp only [Bool.false_eq_true, if_false]
    unfold raisedInstance
    refine wpAny_bind (wpAny_bind (LT4.here (wpAny_bind (L3.here ?_))))
    rw [if_pos (beq_self_eq_true _)]
    refine wpAny_pure ?_
    unfold setFlight
    refine wpAny_bind (wpAny_bind (wpAny_field ha4 hd4 h14 ?_))
    rw [if_neg (by decide)]
    refine wpAny_pure ?_
    exact raiseNew_hot hot4 hne ha4 hd4 s2 hE
  refine wpAny_bind (wpAny_holding (hcs _ (wpAny_bind (wpAny_pure ?_))))
  dsimp only
  refine wpAny_bind (wpAny_holding ?_)
  unfold excFromValue isExcClass
  refine wpAny_bind (wpAny_bind (hnt ?_))
  simp only [Bool.false_eq_true, if_false]
  refine wpAny_pure ?_
  simp only [Bool.false_eq_true, if_false]
  refine wpAny_bind (LI.here ?_)
  simp only [if_true]
  refine wpAny_pure ?_
  have hnn : ¬ ((Value.ref x1 == Value.none) = true) := by simp
  first
  | rw [if_neg hnn]
  | (dsimp only; rw [if_neg hnn])
  refine wpAny_bind ?_
  refine wpAny_holding (wpAny_bind (wpAny_bind (hntc ?_)))
  simp only [Bool.false_eq_true, if_false]
  refine wpAny_pure ?_
  simp only [Bool.false_eq_true, if_false]
  refine wpAny_bind (LIc.here ?_)
  simp only [if_true]
  refine wpAny_pure ?_
  exact wpAny_bind (wpAny_setField ha hd s3 (wpAny_bind (wpAny_setField ha3 hd3 s4 rest)))
open HandSPX in
theorem ps_raiseHF {X : Cx} {W : WX} {e : Expr} {t : L2.St → Hp → XK → Prop} {a : Addr} {oe : Obj} {pn : List (Addr × Obj)} {i : Nat} {n : Str} {C1 : Value} {cpos pos : Pos} {K : PySem.W.Frag} (hK : X.K = K) (hin : X.N[i]? = some n) (hln : X.env.kindOf n = some .local) (hh : X.A.handled = some (.ref a)) (hpn : X.pn = (a, oe) :: pn) (hv : ∃ v1 : Array Value, oe.data = .fields v1 ∧ v1[2]? = some .none) (hoc : oe.cls = C1)
    (tk : L2.Takes X W) (he : PMk5 X e t) (hdb : (n == ("__debug__" : Str)) = false := by decide) :
    PS X (.Raise (some e) (some (.Name n cpos)) pos) (fun _ σ H => t σ H fun cls d H' => σ[i]? = some (some (.ref a)) ∧ PySem.W.subIn K C1 (.type "BaseException") = some true ∧ W cls d σ H') := by
  subst hK
  refine ⟨fun pins s σ H D I h => ?_⟩
  obtain ⟨v1, e1, c1⟩ := hv
  show wpAny _ _ (do standAt pos; raiseStmt X.env (some (do let v ← eval e X.env; standAt pos; pure v)) (some (do let v ← eval (.Name n cpos) X.env; standAt pos; pure v))) _ _ _
  refine wpAny_bind (wpAny_standAt (raise_made_hotF (x1 := a) (wpAny_bind (wpAny_mono (he pins s σ H _ I h) (fun u s1 hu => wpAny_bind (wpAny_standAt (wpAny_pure ?_))) fun _ _ x => x))))
  obtain ⟨⟨a2, oe2, vs, sI, H', cls, d, rfl, J, k, hne, ha, hz, hd, h1, na, os, ag, r, hsl, hsub, q⟩, h5⟩ := hu
  have hi : 4 < vs.size := h5 a2 oe2 vs rfl ha hd
  have k4 : ∀ b u, sI.heap.get? b = some u → (causeFrom s1.heap a2 a).get? b = some u := fun b u z => by
    have nab : a2 ≠ b := fun y => by
      rw [← y, hne] at z
      cases z
    rw [cause_other nab]
    exact k b u z
  obtain ⟨r1, _⟩ := r (model X.prog X.w) s1.heap (J.kIn.keeps k)
  obtain ⟨_, r2⟩ := r (model X.prog X.w) (causeFrom s1.heap a2 a) (J.kIn.keeps k4)
  have P1 := (J.pin (a, oe) (by rw [hpn]; exact List.mem_append_left _ List.mem_cons_self)).1
  have nap : a ≠ a2 := fun z => by
    rw [z, hne] at P1
    cases P1
  obtain ⟨ha4, hd4⟩ := cause_at (c := a) ha hd
  have h12 : (((vs.setIfInBounds 3 (Value.ref a)).setIfInBounds 4 (Value.bool true)).setIfInBounds 2 (Value.ref a))[1]? = some Value.none := set_other (by decide) (set_other (by decide) (set_other (by decide) h1))
  refine ⟨a2, oe2, vs, cls, C1, rfl, ha, hz.1, hd, h1, hi, nap, ⟨hh, oe, v1, k _ _ P1, e1, c1⟩, fun Q' hQ' => ?_, ⟨oe, k _ _ P1, hoc⟩, PySem.W.looks_subIn (J.kIn.keeps k) hsub, r1, r2, tk _ _ (L2.XE.new J (fun b u z => ?_) hne (Heap.get?_update_self _ ha4 (Obj.isFreed_of_fields (Obj.data_mapFields hd4 _)))
    ⟨by rw [Obj.cls_mapFields, Obj.cls_mapFields, Obj.cls_mapFields]; exact hz.1, by rw [HandSPX.dict_mapFields, HandSPX.dict_mapFields, HandSPX.dict_mapFields]; exact hz.2.1⟩ (Obj.data_mapFields hd4 _) h12 na os ag q)⟩
  · obtain ⟨m, hn, hl⟩ := J.loc
    obtain ⟨u, ru, l⟩ := hl i n (.ref a) hin hsl (.inl hln)
    obtain rfl : u = Value.ref a := ru
    have hm : m n = some (.ref a) := by
      rcases l with ⟨_, hm⟩ | ⟨hk, _⟩
      · exact hm
      · rw [hln] at hk
        rcases hk with z | z <;> cases z
    exact wpAny_bind (wpAny_Name (wpAny_loadName_local J.ok.kind hln (hn.keeps k) hm (wpAny_bind (wpAny_standAt (wpAny_pure hQ')))) hdb)
  · have nab : a2 ≠ b := fun y => by
      rw [← y, hne] at z
      cases z
    show ((causeFrom s1.heap a2 a).update a2 (Obj.mapFields (·.setIfInBounds 2 (.ref a)))).get? b = some u
    rw [Heap.get?_update_other _ _ nab]
    exact k4 b u z
section
variable {X : Cx} {C fI : Addr} {x : Str} {fs : List Str}
theorem pmkN_sup {e : Expr} {es : List Expr} {ta : TA} {p pos : Pos} {k : Nat} (T : SupX.SupC X.prog X.K X.mg x C fI fs) (hr : Room k X.A) (ha : PA X (e :: es) ta) (hf : fs.length ≤ 4 := by decide) (hg : Gl X x := by rfl)
    (hdb : (x == ("__debug__" : Str)) = false := by decide) (he : starEach (e :: es) X.env = (false, eval e X.env) :: starEach es X.env := by rfl) (hpl : (backTo pos (starEach es X.env)).any (·.1) = false := by rfl) :
    L2N.PMk X (.Call (.Name x p) (e :: es) [] pos) (SupX.tMkSup C fs ta) := by
  intro pins s σ H Q I h
  refine wpAny_mono (SupX.mk_sup T (by have := hr.dp; omega) ha hf hg hdb he hpl I h) (fun u s' q => ?_) fun _ _ z => z
  obtain ⟨e, t1, oe, vs, sI, H', cls, d, q1, q2, q3, q4, q5, q6, q7, q8, q9, q10, q11, q12⟩ := q
  subst q6 q7
  exact ⟨e, _, _, sI, H', cls, d, q1, q2, q3, q4, q5, ⟨rfl, rfl, fun vs e => by cases e; rfl⟩, rfl, rfl, q8, q9, q10, q11, q12⟩
theorem pmk5_sup {e : Expr} {es : List Expr} {ta : TA} {p pos : Pos} (T : SupX.SupC X.prog X.K X.mg x C fI fs) (hdp : X.A.depth + 1 < recursionLimit) (ha : PA X (e :: es) ta) (hf : fs.length ≤ 4 := by decide) (hg : Gl X x := by rfl)
    (hdb : (x == ("__debug__" : Str)) = false := by decide) (he : starEach (e :: es) X.env = (false, eval e X.env) :: starEach es X.env := by rfl) (hpl : (backTo pos (starEach es X.env)).any (·.1) = false := by rfl) :
    PMk5 X (.Call (.Name x p) (e :: es) [] pos) (SupX.tMkSup C fs ta) := by
  intro pins s σ H Q I h
  refine wpAny_mono (SupX.mk_sup T hdp ha hf hg hdb he hpl I h) (fun u s' q => ?_) fun _ _ z => z
  obtain ⟨e, t1, oe, vs, sI, H', cls, d, q1, q2, q3, q4, q5, q6, q7, q8, q9, q10, q11, q12⟩ := q
  subst q6 q7
  refine ⟨⟨e, _, _, sI, H', cls, d, q1, q2, q3, q4, q5, ⟨rfl, rfl, fun vs e => by cases e; rfl⟩, rfl, rfl, q8, q9, q10, q11, q12⟩, fun a oe vs ea hg hd => ?_⟩
  rw [q1] at ea
  cases ea
  rw [q5] at hg
  cases hg
  cases hd
  show (4 : Nat) < 6
  decide
theorem ps_raiseSupN {W : WX} {e : Expr} {es : List Expr} {ta : TA} {p pos pos' : Pos} {k : Nat} (hc : X.calm = true) (T : SupX.SupC X.prog X.K X.mg x C fI fs) (hr : Room k X.A) (tk : L2N.Takes X W) (ha : PA X (e :: es) ta) (hf : fs.length ≤ 4 := by decide) (hg : Gl X x := by rfl)
    (hdb : (x == ("__debug__" : Str)) = false := by decide) (he : starEach (e :: es) X.env = (false, eval e X.env) :: starEach es X.env := by rfl) (hpl : (backTo pos (starEach es X.env)).any (·.1) = false := by rfl) :
    PS X (.Raise (some (.Call (.Name x p) (e :: es) [] pos)) none pos') (fun _ σ H => SupX.tMkSup C fs ta σ H fun cls d H' => W cls d σ H') :=
  L2N.ps_raise hc tk (pmkN_sup T hr ha hf hg hdb he hpl)
end
theorem pe_xfS {X : Cx} {a C : Addr} {oe : Obj} {cls : Value} {d : Option Addr} {pn : List (Addr × Obj)} {xe : Value → Shared → Prop} {e : Expr} {te : TE} {pos : Pos} {n : Str} (T : XfC X.K C) (hno : PySem.W.findIn X.K (.ref C) n = some none)
    (hz : Zc cls d oe) (hf : ∃ vs, oe.data = .fields vs) (he : PE (suS X a ((a, oe) :: pn) xe) e te) (hb : attributeBase e n X.env (eval e X.env) = eval e X.env := by rfl) :
    PE (suS X a ((a, oe) :: pn) xe) (.Attribute e n pos) (tXf a cls d C n te) := by
  refine ⟨fun pins s σ H Q I h => ?_⟩
  refine attr_of hb (thn (he.run pins s σ H _ I h) fun u s1 hh => ?_)
  obtain ⟨x, H1, I1, rx, ex, ec, dd, fs, v, ed, ea, l, q⟩ := hh
  subst ex
  obtain rfl : u = Value.ref a := rx
  subst ec
  subst ed
  obtain ⟨ha, _⟩ := I1.pin (a, oe) (List.mem_append_left _ List.mem_cons_self)
  obtain ⟨vs, hd⟩ := hf
  have hx : ObjOk X.prog X.w H1 s1.heap dd (.xd fs) := I1.hok dd _ ea
  obtain ⟨mA, hns, hr⟩ := hx
  obtain ⟨od, ho, hl⟩ := lookIn_ns hns
  obtain ⟨u, hu, ru⟩ := RelO.some_of (v := v) (o := mA n) (by rw [← l]; exact hr n)
  have J : PySem.W.InstAt s1.heap a oe C (some od) := ⟨ha, hz.1, by unfold PySem.W.notCls; rw [hd] <;> rfl, by rw [hz.2]; exact ho⟩
  exact HandSPX.exc_get I1.kIn J T.ga T.gg T.exC (PySem.W.findObj_own T.hdC hno rfl (by rw [hl, hu])) (handed_of ru) ⟨v, H1, I1.tok _, ru, q⟩
theorem passWN {X : Cx} {W : WX} (tk : L2N.Takes X W) : Rr.PassA (L2N.CX X.prog X.w) X (WE W) := fun σ => L2N.passAt tk σ
theorem cxUpN {P : Program} {w : World} : StX.CXUp (L2N.CX P w) := by
  rintro outer s H s2 H2 E e s' un kp ho ⟨a, B, H', cls, d, ea, fl, hok, ub, na, os, ag, he⟩
  refine ⟨a, B, H', cls, d, ea, fl, hok, ⟨fun b o q n hb => ub.keep b o (kp b o q) (un.free b o q n (by simp)) hb, fun b o q hb => ub.slot b o (kp b o q) hb, fun b o q n => ub.free b o (kp b o q) (un.free b o q n (by simp)),
    fun b o q hb => ub.there b o (kp b o q) hb, fun b xs q => ub.tups b xs (un.tups b xs q), fun b o xs q => ub.frzs b o xs (un.frzs b o xs q), fun b ps q => ?_⟩, na, os.trans ho, ag, he⟩
  obtain ⟨m1, e1⟩ := un.tbls b ps q
  obtain ⟨m2, e2⟩ := ub.tbls b _ e1
  exact ⟨m1 ++ m2, by rw [e2, Array.append_assoc]⟩
theorem dp_mark {k : Nat} {A : Around} {v : Option Value} (hr : Room k A) : (A.mark v).depth + 1 < recursionLimit := by
  have := hr.dp
  show A.depth + 1 < _
  omega
end Rt
namespace Ru
open PySem PySem.Spec PyProof.Rows L2 PySem.Calls
def tChain3 (r r' r'' : R2) (ta tb tc td : TE) : TE := fun σ H Q => ta σ H fun x H1 => tb σ H1 fun y H2 => r x y H2 fun z H3 => ∃ k, z = .bl k ∧
  (if k = true then tc σ H3 fun w H4 => r' y w H4 fun z2 H5 => ∃ k2, z2 = .bl k2 ∧ (if k2 = true then td σ H5 fun v H6 => r'' w v H6 Q else Q (.bl false) H5) else Q (.bl false) H3)
section
variable {X : Cx} {a b c d : Expr} {op op' op'' : CmpOp} {r r' r'' : R2} {ta tb tc td : TE} {pos : Pos}
theorem pt_chain3 (ho : OpR X (compareOp op) r) (ho' : OpR X (compareOp op') r') (ho'' : OpR X (compareOp op'') r'') (ha : PE X a ta) (hb : PE X b tb) (hc : PE X c tc) (hd : PE X d td)
    (hm : lastMarks [op, op', op''] [b, c, d] = false := by with_unfolding_all rfl) : PT X (.Compare a [op, op', op''] [b, c, d] pos) (tTest (tChain3 r r' r'' ta tb tc td)) := by
  refine ⟨fun pins s σ H Q I h => ?_⟩
  refine isTrue_chain (thn (ha.run pins s σ H _ I h) fun v s1 ⟨x, H1, I1, r1, q1⟩ => test_link (thn (hb.run pins s1 σ H1 _ I1 q1) fun u s2 ⟨y, H2, I2, r2, q2⟩ =>
    thn (ho pins s2 σ H2 x y v u _ I2 r1 r2 q2) fun e s3 ⟨z, H3, I3, r3, k, ek, q3⟩ => ?_)) hm
  subst ek
  cases r3
  refine wpAny_truthy_bool ?_
  cases k with
  | false =>
    obtain ⟨k', e', q'⟩ := q3
    cases e'
    exact ite_ff ⟨H3, I3, q'⟩
  | true =>
    refine ite_tt (test_link (thn (hc.run pins s3 σ H3 _ I3 q3) fun w s4 ⟨y2, H4, I4, r4, q4⟩ => thn (ho' pins s4 σ H4 y y2 u w _ I4 r2 r4 q4) fun e s5 ⟨z, H5, I5, r5, k2, ek, q5⟩ => ?_))
    subst ek
    cases r5
    refine wpAny_truthy_bool ?_
    cases k2 with
    | false =>
      obtain ⟨k', e', q'⟩ := q5
      cases e'
      exact ite_ff ⟨H5, I5, q'⟩
    | true =>
      refine ite_tt (test_last (thn (hd.run pins s5 σ H5 _ I5 q5) fun w2 s6 ⟨y3, H6, I6, r6, q6⟩ => thn (ho'' pins s6 σ H6 y2 y3 w w2 _ I6 r4 r6 q6) fun e s7 ⟨z, H7, I7, r7, k3, ek, q7⟩ => ?_))
      subst ek
      cases r7
      exact wpAny_truthy_bool ⟨H7, I7, q7⟩
end
set_option maxHeartbeats 4000000 in
theorem meets_enum_newT (l : Addr) (items : Array Value) (n : Nat) (dct : Option Addr) (sl : Array (Option Value)) :
    Meets (Builtin.«enumerate.__new__» ⟨[.type "enumerate", .ref l], []⟩) (fun _ R s => s.heap.get? l = some { cls := .type "tuple", dict := dct, data := .seq items n, slots := sl } ∧
      R (.ok (.ret (.ref (s.heap.push { cls := .type "tuple_iterator", data := .fields #[.ref l, .int 0 0] }).objs.size)))
        { s with heap := (s.heap.push { cls := .type "tuple_iterator", data := .fields #[.ref l, .int 0 0] }).push { cls := .type "enumerate", data := .fields #[.none, .bool false, .ref s.heap.objs.size, rawInt 0, .none, .none] } }) :=
  .of_wp fun prog w A R s h => by
    obtain ⟨hp, g, d, tk, os⟩ := s; obtain ⟨hl, h⟩ := h
    have hsub := sub_enumerate
    have hL : Heap.IsTuple (Shared.heap ⟨hp, g, d, tk, os⟩) l items := ⟨_, hl, rfl, n, rfl⟩
    wp_walk using AutoSeq1.wpAny_loadPart' hl
    refine wpAny_stack_any fun st => wpAny_pure ?_
    split
    · rename_i c _ _ _ _ _
      cases (c == Value.type "enumerate")
      · wp_walk using AutoSeq1.wpAny_loadPart' hl, wpAny_pyIter_tuple hL
        exact ⟨_, rfl, h⟩
      · wp_walk using AutoSeq1.wpAny_loadPart' hl, wpAny_pyIter_tuple hL
        exact ⟨_, rfl, h⟩
    · wp_walk using AutoSeq1.wpAny_loadPart' hl, wpAny_pyIter_tuple hL
      exact ⟨_, rfl, h⟩
section
variable {prog : Program} {w : World} {A : Around} {E : Value → Shared → Prop} {s : Shared}
theorem call_enum_tup {l : Addr} {items : Array Value} {Q : Value → Shared → Prop} (hL : s.heap.IsTuple l items)
    (h : ∀ h', IsEnum h' (s.heap.objs.size + 1) s.heap.objs.size 0 .none → h'.IsTupleIter s.heap.objs.size l 0 → h'.objs.size = s.heap.objs.size + 2 →
      (∀ b o, s.heap.get? b = some o → h'.get? b = some o) → Q (.ref (s.heap.objs.size + 1)) { s with heap := h' }) :
    wpAny (model prog w) A (call (.type "enumerate") [.ref l]) Q E s := by
  obtain ⟨⟨c, dct, dt, sl⟩, hl, hc, n, hd⟩ := hL
  replace hc : c = .type "tuple" := hc
  replace hd : dt = .seq items n := hd
  subst hc hd
  refine callType_new F.called_enumerate (by decide) (F.typeCall_enumerate_1 _) (F.newCall_enumerate_1 _) (fun obj => F.args_object_init_2 obj _) F.entry_enumerate_new
    (meets_enum_newT l items n dct sl) ⟨hl, ?_⟩
  have hz : (s.heap.push { cls := .type "tuple_iterator", data := .fields #[.ref l, .int 0 0] }).objs.size = s.heap.objs.size + 1 := Heap.size_push ..
  show _ ∧ _
  rw [hz]
  have he : IsEnum ((s.heap.push { cls := .type "tuple_iterator", data := .fields #[.ref l, .int 0 0] }).push
      { cls := .type "enumerate", data := .fields #[.none, .bool false, .ref s.heap.objs.size, rawInt 0, .none, .none] }) (s.heap.objs.size + 1) s.heap.objs.size 0 .none := by
    have := Heap.get?_push_size (s.heap.push { cls := .type "tuple_iterator", data := .fields #[.ref l, .int 0 0] })
      (o := { cls := .type "enumerate", data := .fields #[.none, .bool false, .ref s.heap.objs.size, rawInt 0, .none, .none] }) rfl
    rw [hz] at this; exact this
  refine ⟨⟨_, he, rfl⟩, h _ he ⟨_, Heap.get?_push_of_some _ (Heap.get?_push_size _ rfl), rfl, rfl⟩ (by rw [Heap.size_push, hz]) fun b o x => Heap.get?_push_of_some _ (Heap.get?_push_of_some _ x)⟩
end
def IteT (K : PySem.W.Frag) (a : Addr) : It :=
  ⟨fun i H => ∃ (xs : List V) (x : V), SqT K H a xs ∧ xs[i]? = some x, fun i H v H' => ∃ T x, v = .ref T ∧ H T = none ∧ H' = upd H T (.tup [.int (i : Nat), x]) ∧ ∀ xs, SqT K H a xs → xs[i]? = some x, fun i H => ∃ xs : List V, SqT K H a xs ∧ xs.length = i⟩
theorem tup_apart {h : Heap} {a it : Addr} {i : Nat} {items : Array Value} (ht : h.IsTuple a items) (hi : h.IsTupleIter it a i) : a ≠ it := fun z => by
  obtain ⟨o, e, c, _⟩ := ht
  obtain ⟨o2, e2, c2, _⟩ := hi
  rw [z, e2] at e
  cases e
  rw [c2] at c
  exact absurd c (by simp)
theorem enum_apart {h : Heap} {a e it : Addr} {i : Int} {old : Value} {items : Array Value} (ht : h.IsTuple a items) (hi : IsEnum h e it i old) : e ≠ a := fun z => by
  obtain ⟨o, e1, c, _⟩ := ht
  have h2 : h.get? e = some _ := hi
  rw [z, e1] at h2
  cases h2
  exact absurd c (by simp)
theorem turn_enumT {P : Program} {w : World} {K : PySem.W.Frag} {elts : List Expr} {kk : Nat} {tpos : Pos} (a e it : Addr) :
    Turn P w K (.Tuple elts kk tpos) (IteT K a) [e, it] e (fun i h => (∃ old, IsEnum h e it ((i : Nat) : Int) old) ∧ h.IsTupleIter it a i ∧ e ≠ it) where
  mem := by simp
  obj := fun i h st b hb => by
    obtain ⟨⟨old, he⟩, ⟨o, ho, hc, hd⟩, _⟩ := st
    have e' : b = e ∨ b = it := by simpa using hb
    rcases e' with z | z
    · rw [z]; exact ⟨_, he, fun v q => nomatch q⟩
    · rw [z]; exact ⟨o, ho, fun v q => by rw [hd] at q; cases q⟩
  keep := fun i h h' st k => let ⟨⟨old, he⟩, hi, hne⟩ := st; ⟨⟨old, k e (by simp) _ he⟩, hi.at fun o q => k it (by simp) o q, hne⟩
  item := by
    intro X hP hw hK hc i pins s σ H E I hf st hg
    subst hP hw hK
    obtain ⟨⟨old, he⟩, hit, hne⟩ := st
    obtain ⟨xs, x, hq, hx⟩ := hg
    obtain ⟨its, rv, p, hz⟩ := I.tuple hq
    obtain ⟨u, hu, ru⟩ := rv.get hx
    have hel : e < s.heap.objs.size := Heap.lt_size he
    have hil : it < s.heap.objs.size := by obtain ⟨_, q, _⟩ := hit; exact Heap.lt_size q
    have hlt : i < its.toArray.size := by
      have := (List.getElem?_eq_some_iff.mp hu).1
      simpa using this
    have hef : e ∉ [it, a] := by
      have h1 := enum_apart p he
      simp only [List.mem_cons, List.not_mem_nil, or_false, not_or]
      exact ⟨hne, h1⟩
    refine wpAny_pyNext_enum_itemD (Draws.tuple (show X.A.in1.handled = none from I.ok.hd hc) it a (tup_apart p hit) its.toArray) he ⟨hit, p⟩ hlt hne hef fun u' h' tk hu' ho hst' hT hsz hk => ?_
    have eu : u' = u := by
      have h2 : its.toArray[i]? = some u := by simpa using hu
      rw [h2] at hu'
      exact (Option.some.inj hu').symm
    subst eu
    refine ⟨_, rfl, wpAny_letOwnedTupleGo_enum (s := { s with heap := h', toks := tk + 1 }) ho fun h'' he' sb => ?_⟩
    have hT2 : h''.get? s.heap.objs.size = some { cls := .type "tuple", data := .seq #[.int i tk, u'] } := (sb.2 _ (Nat.ne_of_gt hel)).trans hT
    have new : ObjOk X.prog X.w (upd H s.heap.objs.size (.tup [.int (i : Nat), x])) h'' s.heap.objs.size (.tup [.int (i : Nat), x]) :=
      ⟨by show 2 ≤ sizeLine; decide, [.int i tk, u'], .cons ⟨_, rfl⟩ (.cons ru .nil), ⟨_, hT2, rfl, _, rfl⟩⟩
    have I1 : Inv X pins σ (upd H s.heap.objs.size (.tup [.int (i : Nat), x])) { s with heap := h'', toks := tk + 1 } :=
      I.turnedNew (ch := [e, it]) (fun b ob hb q => (sb.2 b (fun z => hb (by simp [z]))).trans (hk b ob (fun z => hb (by simp [z])) (fun z => hb (by simp [z])) q)) hf (Nat.le_refl _) new
    refine ⟨.ref s.heap.objs.size, _, I1, rfl, ⟨_, x, rfl, I.hok.fresh (Nat.le_refl _), rfl, fun ys hy => by rw [I.tuple_inj hy hq]; exact hx⟩, ⟨⟨u', ?_⟩, hst'.1.at fun o q => (sb.2 it (Ne.symm hne)).trans q, hne⟩, fun b hb => ?_⟩
    · have e1 : ((i + 1 : Nat) : Int) = (i : Int) + 1 := by omega
      rw [e1]; exact he'
    · have hb' : b < s.heap.objs.size := by
        have e' : b = e ∨ b = it := by simpa using hb
        rcases e' with z | z
        · rw [z]; exact hel
        · rw [z]; exact hil
      rw [upd_ne (Nat.ne_of_lt hb')]
      exact (hf b hb).1
  done := by
    intro X hP hw hK hc i pins s σ H E I hf st hg
    subst hP hw hK
    obtain ⟨⟨old, he⟩, hit, hne⟩ := st
    obtain ⟨xs, hq, hx⟩ := hg
    obtain ⟨its, rv, p, hz⟩ := I.tuple hq
    obtain ⟨f0, f1, f2, f3, f4, f5⟩ := hf it (by simp)
    have hl := rv.length
    have hn : its.toArray.size = i := by simp; omega
    subst hn
    exact wpAny_pyNext_enum_endD (Draws.tuple (show X.A.in1.handled = none from I.ok.hd hc) it a (tup_apart p hit) its.toArray) he ⟨hit, p⟩ fun h' eb => ⟨rfl, I.turned (t' := s.toks) (fun b o hb q => eb b o hb q) f0 f1 f3 f4 f5⟩
  self := fun A i s Q E st h => let ⟨⟨_, he⟩, _⟩ := st; wpAny_pyIter_enum he h
def iEnumT (K : PySem.W.Frag) (ta : TA) : TI := fun σ H R => ta σ H fun vs H1 => ∃ a xs, vs = [.ref a] ∧ SqT K H1 a xs ∧ R (IteT K a) H1
theorem pi_enumT {X : Cx} {e : Expr} {ta : TA} {p pos tpos : Pos} {elts : List Expr} {kk : Nat} (hg : Gl X "enumerate") (hm : X.mg "enumerate" = none) (ha : PA X [e] ta) (hs : starEach [e] X.env = [(false, eval e X.env)] := by rfl) :
    PI X (.Tuple elts kk tpos) (.Call (.Name "enumerate" p) [e] [] pos) (iEnumT X.K ta) := by
  refine ⟨fun pins s σ H R I h => ?_⟩
  refine Call_ (ld_blt I hg hm boot_enumerate (PyProof.Rows.callWith_type1 (thn (ha.run pos pins s σ H _ I h) fun us s1 ⟨vs, H1, I1, r1, q1⟩ => ?_) hs rfl))
  obtain ⟨a, xs, ex, hq, q⟩ := q1
  subst ex
  cases r1 with
  | cons r rr =>
    cases rr
    cases r
    obtain ⟨its, rv, p', hz⟩ := I1.tuple hq
    refine call_enum_tup p' fun h' he hit hsz hk => wpAny_pyIter_enum he ?_
    have I2 : Inv X pins σ H1 { s1 with heap := h' } := I1.kept (t' := s1.toks) hk
    refine ⟨s1.heap.objs.size + 1, [s1.heap.objs.size + 1, s1.heap.objs.size], _, _, H1, rfl, I2, turn_enumT a (s1.heap.objs.size + 1) s1.heap.objs.size, ⟨⟨.none, he⟩, hit, Nat.succ_ne_self _⟩, fun b hb => ?_, q⟩
    have e' : b = s1.heap.objs.size + 1 ∨ b = s1.heap.objs.size := by simpa using hb
    have hle : s1.heap.objs.size ≤ b := by
      rcases e' with z | z
      · rw [z]; exact Nat.le_add_right _ _
      · rw [z]; exact Nat.le_refl _
    exact I1.fpOk hle (I1.hok.fresh hle)
set_option maxHeartbeats 3200000 in
theorem call_set_lstI {P : Program} {w : World} {A : Around} {E : Value → Shared → Prop} {s : Shared} {l : Addr} {items : Array Value} (ns : List Int) {Q : Value → Shared → Prop} (hh : A.handled = none) (hl : s.heap.IsList l items) (hit : IntsAre items.toList ns) (hb : ns.length + 1 < scanBound)
    (h : ∀ (h' : Heap) (tk c : Nat), SetR w h' s.heap.objs.size (fun j => decide (j ∈ ns)) c → c ≤ ns.length → (∀ b o, s.heap.get? b = some o → h'.get? b = some o) → Q (.ref s.heap.objs.size) { s with heap := h', toks := tk }) :
    wpAny (model P w) A (call (.type "set") [.ref l]) Q E s := by
  have hisz : items.size = ns.length := by
    have q := IntsAre.length hit
    rw [Array.length_toList] at q
    exact q
  obtain ⟨c, tl, hmro⟩ := F.called_set.mro
  have hmade := F.called_set.made
  have hsub := F.called_set.sub
  refine wpAny_call (codeAny_of_tree ?_)
  show wpAny _ _ (callAny (.type "set") _) _ _ _
  refine wpAny_pure ⟨Code.quiet_builtin _ (by decide +kernel), codeAny_builtin F.entry_type_call ?_⟩
  rw [Around.under_plain (weight_type_call_type "set" [.ref l] []) rfl]
  have h1 := F.called_set.notType
  have h2 := F.called_set.canCreate
  have hct := F.typeCall_set_1 (.ref l)
  repeat (any_goals (first | assumption | wp_step))
  refine codeAny_mono (code_set_led1 (.ref l) (E := E) (Q₁ := fun obj s₁ => obj = .ref s.heap.objs.size ∧ s₁ = { s with heap := s.heap.push { cls := .type "set", dict := none, data := .set #[] 0 (.fresh 0 0 (!w.params.followText "set-order")) } }) ⟨rfl, rfl⟩) fun r s₁ hr => ?_
  cases r with
  | error e => exact hr
  | ok fl =>
    cases fl with
    | ret obj =>
      obtain ⟨rfl, rfl⟩ := hr
      have hS : (s.heap.push { cls := .type "set", dict := none, data := .set #[] 0 (.fresh 0 0 (!w.params.followText "set-order")) }).get? s.heap.objs.size = some { cls := .type "set", dict := none, data := .set #[] 0 (.fresh 0 0 (!w.params.followText "set-order")) } := Heap.get?_push_size _ rfl
      have hT : Shared.TypeIs { s with heap := s.heap.push { cls := .type "set", dict := none, data := .set #[] 0 (.fresh 0 0 (!w.params.followText "set-order")) } } (.ref s.heap.objs.size) "set" := ⟨_, hS, rfl⟩
      have hli := F.called_set.init.lookup
      have hbi := F.called_set.init.bind (.ref s.heap.objs.size)
      repeat (any_goals (first | assumption | wp_step))
      refine codeAny_mono (codeAny_call_builtin (R := wants (fun r s₂ => r = .none ∧ ∃ h' tk c, s₂ = { s with heap := h', toks := tk } ∧ SetR w h' s.heap.objs.size (fun j => decide (j ∈ ns)) c ∧ c ≤ ns.length ∧
          (∀ b o, s.heap.get? b = some o → h'.get? b = some o)) E) F.called_set.init.plain F.entry_set_init (check_set_init_1 hT ?_)) fun r₂ s₂ hr₂ => ?_
      · obtain ⟨ol, hol, hcl, nl, hdl⟩ := hl
        obtain ⟨ocls, odict, odata, oslots⟩ := ol
        simp only at hcl hdl
        subst hcl; subst hdl
        have hol' : (s.heap.push { cls := .type "set", dict := none, data := .set #[] 0 (.fresh 0 0 (!w.params.followText "set-order")) }).get? l = some { cls := .type "list", dict := odict, data := .seq items nl, slots := oslots } := Heap.get?_push_of_some _ hol
        have hsls := F.sub_list_set
        have hslf := F.sub_list_frozenset
        have hne : (Value.type "list" == Value.type "dict") = false := by decide
        have hl1 : (s.heap.push { cls := .type "set", dict := none, data := .set #[] 0 (.fresh 0 0 (!w.params.followText "set-order")) }).IsList l items := ⟨_, hol', rfl, nl, rfl⟩
        unfold Builtin.«set.__init__» noKeywords Builtin.Frozenset.updateFrom
        generalize hPI : pyIter = PI
        wp_walk
        subst hPI
        refine wpAny_pyIter_list hl1 ?_
        refine wpAny_bind (wpAny_runValue ?_)
        have hlS : l < s.heap.objs.size := Heap.lt_size hol
        have hh3 : A.in1.in1.in1.handled = none := by simp [hh]
        have hz1 : (s.heap.push { cls := .type "set", dict := none, data := .set #[] 0 (.fresh 0 0 (!w.params.followText "set-order")) }).objs.size = s.heap.objs.size + 1 := Heap.size_push ..
        have hneI : l ≠ (s.heap.push { cls := .type "set", dict := none, data := .set #[] 0 (.fresh 0 0 (!w.params.followText "set-order")) }).objs.size := by
          rw [Heap.size_push]; exact Nat.ne_of_lt (Nat.lt_succ_of_lt hlS)
        have hSf : s.heap.objs.size ∉ [(s.heap.push { cls := .type "set", dict := none, data := .set #[] 0 (.fresh 0 0 (!w.params.followText "set-order")) }).objs.size, l] := by
          rw [Heap.size_push]; simp only [List.mem_cons, List.mem_singleton, List.not_mem_nil, or_false, not_or]
          exact ⟨Nat.ne_of_lt (Nat.lt_succ_self _), Nat.ne_of_gt hlS⟩
        have hval : ∀ (i : Nat) (v : Value), items[i]? = some v → ∃ k t, ns[i]? = some k ∧ v = .int k t := fun i v hv => by
          have hi : i < ns.length := by rw [← hisz]; exact (Array.getElem?_eq_some_iff.mp hv).1
          obtain ⟨t, e⟩ := PyProof.Rows.IntsAre.int_at hit i v (by rw [Array.getElem?_toList]; exact hv)
          refine ⟨ns[i], t, List.getElem?_eq_getElem hi, ?_⟩
          rw [e, List.getD_eq_getElem?_getD, List.getElem?_eq_getElem hi] <;> rfl
        refine set_update_ints ((Walks.list hh3 _ l hneI items).toS) s.heap.objs.size
          hSf ns hisz hb hval (items.size - 0) 0 _ (by omega) (Nat.zero_le _)
          ⟨⟨_, Heap.get?_push_size _ rfl, rfl, rfl⟩, (hl1.push _)⟩ ?hS0 ?hR
        case hS0 =>
          have hget : ((s.heap.push { cls := .type "set", dict := none, data := .set #[] 0 (.fresh 0 0 (!w.params.followText "set-order")) }).push { cls := .type "list_iterator", data := .fields #[.ref l, .int 0 0] }).get? s.heap.objs.size
              = some { cls := .type "set", dict := none, data := .set #[] 0 (.fresh 0 0 (!w.params.followText "set-order")) } := Heap.get?_push_of_some _ hS
          exact ⟨0, Nat.le_refl 0, setR_new_at hget⟩
        case hR =>
          intro s' c' hm hc' hS'
          obtain ⟨h', g2, d', tk', os'⟩ := s'
          have eg : g2 = s.gens := hm.gens
          have ed : d' = s.drawn := hm.drawn
          have eo : os' = s.os := hm.os
          subst eg; subst ed; subst eo
          show wpAny _ _ _ _ _ _
          refine wpAny_pure ?_
          show wpAny _ _ (ret Value.none) _ _ _
          rw [hisz] at hc'
          refine wpAny_pure ⟨rfl, h', tk', c', rfl, hS', hc', fun b o e => ?_⟩
          have hb0 : b < s.heap.objs.size := Heap.lt_size e
          have hb1 : b ≠ s.heap.objs.size := Nat.ne_of_lt hb0
          have hb2 : b ≠ (s.heap.push { cls := .type "set", dict := none, data := .set #[] 0 (.fresh 0 0 (!w.params.followText "set-order")) }).objs.size := by
            rw [Heap.size_push]; exact Nat.ne_of_lt (Nat.lt_succ_of_lt hb0)
          exact hm.heap b o (by simp only [List.mem_cons, List.mem_singleton, List.not_mem_nil, or_false, not_or]; exact ⟨hb1, hb2⟩) (Heap.get?_push_of_some _ (Heap.get?_push_of_some _ e))
      · cases r₂ with
        | error e => exact hr₂
        | ok fl₂ =>
          cases fl₂ with
          | ret r =>
            obtain ⟨rfl, h', tk, c, rfl, hS', hc', hk'⟩ := hr₂
            repeat (any_goals (first | assumption | wp_step))
            exact h _ _ _ hS' hc' hk'
          | _ => exact hr₂.elim
    | _ => exact hr.elim
def rSetI (K : PySem.W.Frag) (w : World) : List V → Hp → VK → Prop := fun xs H Q => ∃ (p : Addr) (ns : List Int), xs = [.ref p] ∧ (SqL K H p (ns.map V.int) ∨ SqT K H p (ns.map V.int)) ∧ ns.length < 1000 ∧
  ∀ a c, H a = none → c ≤ ns.length → Q (.ref a) (upd H a (SetO w a (fun j => decide (j ∈ ns)) c))
theorem cr_setI {X : Cx} (hc : X.calm = true) : CallR X (.type "set") (rSetI X.K X.w) := by
  intro pins s σ H xs us Q I r h
  obtain ⟨p, ns, rfl, hq, hz, q⟩ := h
  obtain rfl := Vals.ref1 r
  have fin : ∀ (h' : Heap) (tk c : Nat), SetR X.w h' s.heap.objs.size (fun j => decide (j ∈ ns)) c → c ≤ ns.length → (∀ b o, s.heap.get? b = some o → h'.get? b = some o) → EP X pins σ Q (.ref s.heap.objs.size) { s with heap := h', toks := tk } := fun h' tk c R hcl k =>
    ⟨.ref s.heap.objs.size, _, I.laid (t' := tk) k (Nat.le_refl _) (setO_new R), rfl, q _ c (I.hok.fresh (Nat.le_refl _)) hcl⟩
  rcases hq with hq | hq
  · obtain ⟨its, rv, pl, _⟩ := I.list hq
    exact call_set_lstI ns (I.ok.hd hc) pl.isList (by simpa using intsAre_of rv) (by unfold scanBound; omega) fin
  · obtain ⟨its, rv, pl, _⟩ := I.tuple hq
    exact call_set_tupI ns (I.ok.hd hc) pl (by simpa using intsAre_of rv) (by unfold scanBound; omega) fin
def KTupC (K : PySem.W.Frag) (C : Addr) (f : Str) (xs : List V) : Prop := ∃ (mc : Value) (a : Addr), ClX.CRead K C mc ∧ ClX.CVal K C mc f (.ref a) (.ref a) ∧ ∀ H, SqT K H a xs
open PySem PySem.Spec PyProof.Rows L2 PySem.Calls
theorem is_strK {P : Program} {w : World} (k : Str) (u : Tok) : (strKind P w).is k (.str k u) = true := by
  show decide (k = k) = true
  exact decide_eq_true rfl
theorem set_update_strs {P : Program} {w : World} {A : Around} {I : Addr} {fp wr : List Addr} {G : Array GenState → Array GenState → Prop} {n : Nat} {Pv : Nat → Value → Prop} {St : Nat → Shared → Prop} {R : Result → Shared → Prop}
    (W : WalksS P w A.in1 I fp wr G n Pv St) (S : Addr) (hSf : S ∉ fp) (hb : n + 1 < scanBound) (hval : ∀ i v, Pv i v → ∃ z t, v = .str z t) :
    ∀ (k i : Nat) (s : Shared), n - i = k → i ≤ n → St i s → (∃ T c, c ≤ i ∧ s.heap.SetOf (strKind P w) S T c) →
      (∀ s' T c, Moved (S :: wr) G s s' → c ≤ n → s'.heap.SetOf (strKind P w) S T c → R (.ok (.ret .none)) s') →
      codeAny (model P w) A (.builtin "set.update.loop" ⟨[.ref S, .ref I], []⟩) R s := by
  have hSw : S ∉ wr := fun h => hSf (W.sub _ h)
  have hsub : ∀ b ∈ wr, b ∈ S :: wr := fun b hb => List.mem_cons_of_mem _ hb
  intro k
  induction k with
  | zero =>
    intro i s hk' hi hst ⟨T, c, hc, hS⟩ hR
    have hin : i = n := by omega
    subst hin
    refine codeAny_builtin F.entry_set_update_loop ?_
    rw [Around.under_plainId F.plain_set_update_loop _]
    show wpAny _ A.in1 (pyNext (.ref I) >>= _) _ _ s
    refine wpAny_bind (W.done s _ _ hst fun s' hm => ?_)
    show wpAny _ A.in1 (ret Value.none) _ _ s'
    refine wpAny_pure (hR s' T c (hm.mono hsub) hc ?_)
    obtain ⟨o, es, ep, t, ho, rest⟩ := hS
    exact ⟨o, es, ep, t, hm.heap S _ hSw ho, rest⟩
  | succ k ih =>
    intro i s hk' hi hst ⟨T, c, hc, hS⟩ hR
    have hlt : i < n := by omega
    refine codeAny_builtin F.entry_set_update_loop ?_
    rw [Around.under_plainId F.plain_set_update_loop _]
    show wpAny _ A.in1 (pyNext (.ref I) >>= _) _ _ s
    refine wpAny_bind (W.item i s _ _ hlt hst fun v s' hP hst' hm => ?_)
    obtain ⟨z, t, rfl⟩ := hval i v hP
    have hS' : s'.heap.SetOf (strKind P w) S T c := by
      obtain ⟨o, es, ep, tb, ho, rest⟩ := hS
      exact ⟨o, es, ep, tb, hm.heap S _ hSw ho, rest⟩
    show wpAny _ A.in1 (holding [Value.str z t] (setAdd S (.str z t)) >>= _) _ _ s'
    refine wpAny_bind (wpAny_holding ?_)
    unfold setAdd
    refine wpAny_holding ?_
    refine wpAny_bind ((strKind P w).pyHash (k := z) (is_strK _ _) ?_)
    refine wpAny_setAddHashed_of (knd := strKind P w) (s := { s' with toks := s'.toks + 1 }) (is_strK _ _) rfl hS' (by omega) fun h' hsb hS2 => ?_
    have hc3 : (if T z = true then c else c + 1) ≤ i + 1 := by
      split <;> omega
    refine wpAny_pure ⟨plainId_quiet F.plain_set_update_loop _, ih (i + 1) _ (by omega) hlt (W.frame _ s' _ _ hst' (Nat.le_succ _) fun b hb o e => ?_) ⟨_, _, hc3, hS2⟩ fun s'' T2 c2 hm'' hc'' hS'' => ?_⟩
    · rw [hsb.2 b (fun h : b = S => hSf (by rw [← h]; exact hb))]; exact e
    · refine hR s'' T2 c2 (Moved.trans W.gtrans ((hm.mono hsub).then_heap (Nat.le_succ _) fun b o hb e => ?_) hm'') hc'' hS''
      rw [hsb.2 b (fun h : b = S => hb (by rw [h]; exact List.mem_cons_self))]; exact e
set_option maxHeartbeats 3200000 in
theorem call_set_lstS {P : Program} {w : World} {A : Around} {E : Value → Shared → Prop} {s : Shared} {l : Addr} {items : Array Value} {xs : List Str} {Q : Value → Shared → Prop} (hh : A.handled = none) (hl : s.heap.IsList l items) (hit : StrsAre items.toList xs) (hb : items.size + 1 < scanBound)
    (h : ∀ (h' : Heap) (tk c : Nat) (T : Str → Bool), h'.SetOf (strKind P w) s.heap.objs.size T c → c ≤ items.size → (∀ b o, s.heap.get? b = some o → h'.get? b = some o) → Q (.ref s.heap.objs.size) { s with heap := h', toks := tk }) :
    wpAny (model P w) A (call (.type "set") [.ref l]) Q E s := by
  obtain ⟨c, tl, hmro⟩ := F.called_set.mro
  have hmade := F.called_set.made
  have hsub := F.called_set.sub
  refine wpAny_call (codeAny_of_tree ?_)
  show wpAny _ _ (callAny (.type "set") _) _ _ _
  refine wpAny_pure ⟨Code.quiet_builtin _ (by decide +kernel), codeAny_builtin F.entry_type_call ?_⟩
  rw [Around.under_plain (weight_type_call_type "set" [.ref l] []) rfl]
  have h1 := F.called_set.notType
  have h2 := F.called_set.canCreate
  have hct := F.typeCall_set_1 (.ref l)
  repeat (any_goals (first | assumption | wp_step))
  refine codeAny_mono (code_set_new_1 (.ref l) (E := E) (Q₁ := fun obj s₁ => ∃ led : Bool, obj = .ref s.heap.objs.size ∧ s₁ = { s with heap := s.heap.push { cls := .type "set", dict := none, data := .set #[] 0 (.fresh 0 0 led) } }) fun led => ⟨led, rfl, rfl⟩) fun r s₁ hr => ?_
  cases r with
  | error e => exact hr
  | ok fl =>
    cases fl with
    | ret obj =>
      obtain ⟨led, rfl, rfl⟩ := hr
      have hS : (s.heap.push { cls := .type "set", dict := none, data := .set #[] 0 (.fresh 0 0 led) }).get? s.heap.objs.size = some { cls := .type "set", dict := none, data := .set #[] 0 (.fresh 0 0 led) } := Heap.get?_push_size _ rfl
      have hT : Shared.TypeIs { s with heap := s.heap.push { cls := .type "set", dict := none, data := .set #[] 0 (.fresh 0 0 led) } } (.ref s.heap.objs.size) "set" := ⟨_, hS, rfl⟩
      have hli := F.called_set.init.lookup
      have hbi := F.called_set.init.bind (.ref s.heap.objs.size)
      repeat (any_goals (first | assumption | wp_step))
      refine codeAny_mono (codeAny_call_builtin (R := wants (fun r s₂ => r = .none ∧ ∃ h' tk c T, s₂ = { s with heap := h', toks := tk } ∧ h'.SetOf (strKind P w) s.heap.objs.size T c ∧ c ≤ items.size ∧
          (∀ b o, s.heap.get? b = some o → h'.get? b = some o)) E) F.called_set.init.plain F.entry_set_init (check_set_init_1 hT ?_)) fun r₂ s₂ hr₂ => ?_
      · obtain ⟨ol, hol, hcl, nl, hdl⟩ := hl
        obtain ⟨ocls, odict, odata, oslots⟩ := ol
        simp only at hcl hdl
        subst hcl; subst hdl
        have hol' : (s.heap.push { cls := .type "set", dict := none, data := .set #[] 0 (.fresh 0 0 led) }).get? l = some { cls := .type "list", dict := odict, data := .seq items nl, slots := oslots } := Heap.get?_push_of_some _ hol
        have hsls := F.sub_list_set
        have hslf := F.sub_list_frozenset
        have hne : (Value.type "list" == Value.type "dict") = false := by decide
        have hl1 : (s.heap.push { cls := .type "set", dict := none, data := .set #[] 0 (.fresh 0 0 led) }).IsList l items := ⟨_, hol', rfl, nl, rfl⟩
        unfold Builtin.«set.__init__» noKeywords Builtin.Frozenset.updateFrom
        generalize hPI : pyIter = PI
        wp_walk
        subst hPI
        refine wpAny_pyIter_list hl1 ?_
        refine wpAny_bind (wpAny_runValue ?_)
        have hlS : l < s.heap.objs.size := Heap.lt_size hol
        have hh3 : A.in1.in1.in1.handled = none := by simp [hh]
        have hneI : l ≠ (s.heap.push { cls := .type "set", dict := none, data := .set #[] 0 (.fresh 0 0 led) }).objs.size := by
          rw [Heap.size_push]; exact Nat.ne_of_lt (Nat.lt_succ_of_lt hlS)
        have hSf : s.heap.objs.size ∉ [(s.heap.push { cls := .type "set", dict := none, data := .set #[] 0 (.fresh 0 0 led) }).objs.size, l] := by
          rw [Heap.size_push]; simp only [List.mem_cons, List.mem_singleton, List.not_mem_nil, or_false, not_or]
          exact ⟨Nat.ne_of_lt (Nat.lt_succ_self _), Nat.ne_of_gt hlS⟩
        have hval : ∀ (i : Nat) (v : Value), items[i]? = some v → ∃ z t, v = .str z t := fun i v hv => by
          obtain ⟨t, e⟩ := SS.strs_at hit i v (by rw [Array.getElem?_toList]; exact hv)
          exact ⟨_, t, e⟩
        refine set_update_strs ((Walks.list hh3 _ l hneI items).toS) s.heap.objs.size
          hSf hb hval (items.size - 0) 0 _ (by omega) (Nat.zero_le _)
          ⟨⟨_, Heap.get?_push_size _ rfl, rfl, rfl⟩, (hl1.push _)⟩ ?hS0 ?hR
        case hS0 =>
          have hget : ((s.heap.push { cls := .type "set", dict := none, data := .set #[] 0 (.fresh 0 0 led) }).push { cls := .type "list_iterator", data := .fields #[.ref l, .int 0 0] }).get? s.heap.objs.size
              = some { cls := .type "set", dict := none, data := .set #[] 0 (.fresh 0 0 led) } := Heap.get?_push_of_some _ hS
          exact ⟨_, 0, Nat.le_refl 0, (PyProof.Rows.setObjOf_fresh (knd := strKind P w) led).setOf hget (by unfold scanBound; omega)⟩
        case hR =>
          intro s' T' c' hm hc' hS'
          obtain ⟨h', g2, d', tk', os'⟩ := s'
          have eg : g2 = s.gens := hm.gens
          have ed : d' = s.drawn := hm.drawn
          have eo : os' = s.os := hm.os
          subst eg; subst ed; subst eo
          show wpAny _ _ _ _ _ _
          refine wpAny_pure ?_
          show wpAny _ _ (ret Value.none) _ _ _
          refine wpAny_pure ⟨rfl, h', tk', c', T', rfl, hS', hc', fun b o e => ?_⟩
          have hb0 : b < s.heap.objs.size := Heap.lt_size e
          have hb1 : b ≠ s.heap.objs.size := Nat.ne_of_lt hb0
          have hb2 : b ≠ (s.heap.push { cls := .type "set", dict := none, data := .set #[] 0 (.fresh 0 0 led) }).objs.size := by
            rw [Heap.size_push]; exact Nat.ne_of_lt (Nat.lt_succ_of_lt hb0)
          exact hm.heap b o (by simp only [List.mem_cons, List.mem_singleton, List.not_mem_nil, or_false, not_or]; exact ⟨hb1, hb2⟩) (Heap.get?_push_of_some _ (Heap.get?_push_of_some _ e))
      · cases r₂ with
        | error e => exact hr₂
        | ok fl₂ =>
          cases fl₂ with
          | ret r =>
            obtain ⟨rfl, h', tk, c, T, rfl, hS', hc', hk'⟩ := hr₂
            repeat (any_goals (first | assumption | wp_step))
            exact h _ _ _ _ hS' hc' hk'
          | _ => exact hr₂.elim
    | _ => exact hr.elim
def tLenSetS (K : PySem.W.Frag) (ta : TE) : TE := fun σ H Q => ta σ H fun x H1 => ∃ (l : Addr) (xs : List Str), x = .ref l ∧ SqL K H1 l (xs.map V.str) ∧ xs.length < 1000 ∧ ∀ c : Nat, c ≤ xs.length → Q (.int c) H1
theorem pe_lenSetS {X : Cx} {a : Expr} {ta : TE} {p p2 q pos : Pos} (hc : X.calm = true) (hg : Gl X "len") (hm : X.mg "len" = none) (hg2 : Gl X "set") (hm2 : X.mg "set" = none) (ha : PE X a ta)
    (na : starEach [a] X.env = (false, eval a X.env) :: starEach [] X.env := by rfl) : PE X (.Call (.Name "len" p) [.Call (.Name "set" p2) [a] [] q] [] pos) (tLenSetS X.K ta) := by
  refine ⟨fun pins s σ H Q I h => ?_⟩
  refine Call_ (ld_blt I hg hm boot_len ?_)
  refine PyProof.Rows.callWith_builtin1 (PyProof.Rows.args_cons ?_ rfl) rfl rfl
  refine Call_ (ld_blt I hg2 hm2 boot_set ?_)
  refine PyProof.Rows.callWith_type1 (PyProof.Rows.args_cons (thn (ha.run pins s σ H _ I h) fun v s1 ⟨x, H1, I1, r1, q1⟩ => PyProof.Rows.args_nil ?_) na) na rfl
  obtain ⟨l, xs, rfl, hq, h1, q1⟩ := q1
  cases r1
  obtain ⟨its, r, pl, hz⟩ := I1.list hq
  have hl : its.toArray.size = xs.length := by rw [List.size_toArray, ← r.length, List.length_map]
  refine call_set_lstS (I1.ok.hd hc) pl.isList (by simpa using strsAre_of r) (by rw [hl]; unfold scanBound; omega) fun h' tk c T hS hcl hk => ?_
  refine PyProof.Rows.args_nil ?_
  obtain ⟨o, es, ep, t, ho, hex, hd, _, _, _, hf, hn⟩ := hS
  have I2 : Inv X pins σ H1 { s1 with heap := h', toks := tk } := I1.kept hk
  rw [hl] at hcl
  refine call_len_set ho hex hd hf (by rw [hn]; omega) ⟨.int c, H1, I2.tok _, ⟨_, by rw [hn]⟩, q1 c hcl⟩
end Ru
namespace Rw
open PySem PySem.Spec PyProof.Rows L2
section
variable {X : Cx} {K : PySem.W.Frag} {e o : Expr} {ta to te : TE} {f : Str} {pos : Pos}
theorem pe_fldK (hK : X.K = K) (he : PE X e ta) (hb : attributeBase e f X.env (eval e X.env) = eval e X.env) : PE X (.Attribute e f pos) (tFld K ta f) := by
  subst hK
  exact pe_fld he hb
theorem ix_listK (hK : X.K = K) : IxR X (rIxL K) := by
  subst hK
  exact ix_list
theorem ix_tupK (hK : X.K = K) : IxR X (rIxT K) := by
  subst hK
  exact ix_tup
theorem op_in_seqK (hK : X.K = K) : OpR X (compareOp .In) (rIn K false) := by
  subst hK
  exact op_in_seq
theorem op_notIn_seqK (hK : X.K = K) : OpR X (compareOp .NotIn) (rIn K true) := by
  subst hK
  exact op_notIn_seq
theorem pa_starK {es : List Expr} {t : TA} {p : Pos} (hK : X.K = K) (he : PE X e te) (hr : PA X es t) (hs : starEach (.Starred e p :: es) X.env = (true, eval e X.env) :: starEach es X.env := by rfl) : PA X (.Starred e p :: es) (StX.tStar K te t) := by
  subst hK
  exact StX.pa_star he hr hs
theorem pe_joinK {apos pos : Pos} (hK : X.K = K) (ho : PE X o to) (he : PE X e te) (hs : starEach [e] X.env = [(false, eval e X.env)] := by rfl) (hbase : attributeBase o "join" X.env (eval o X.env) = eval o X.env := by rfl) (hline : (apos.endLine == pos.line) = true := by rfl) :
    PE X (.Call (.Attribute o "join" apos) [e] [] pos) (tM1 (fun x xs H Q => ∃ a p, ∃ ys : List Str, x = .str a ∧ xs = [.ref p] ∧ (SqL K H p (ys.map V.str) ∨ SqT K H p (ys.map V.str)) ∧
      (ys.map (·.length)).sum + ys.length * a.length ≤ 16777216 ∧ Q (.str (Txt.join a ys)) H) to te) := by
  subst hK
  exact pe_join ho he hs hbase hline
end
end Rw
namespace L2
open PySem PySem.Spec PyProof.Rows
def ipMul : TIp := fun x y H Q => ∃ i j, x = .int i ∧ y = .int j ∧ CMul i j ∧ Q (.int (i * j)) H
theorem ip_mul {X : Cx} : PIp X .Mult ipMul := by
  intro pins s σ H x y v u Q I r1 r2 h
  obtain ⟨i, j, e1, e2, hc, q⟩ := h
  subst e1; subst e2
  obtain ⟨t, rfl⟩ := r1
  obtain ⟨t', rfl⟩ := r2
  exact imul_int ⟨.int _, H, I.tok _, ⟨_, rfl⟩, q⟩ hc.ok
open PySem PySem.Spec PyProof.Rows
theorem fold_rep (c : Nat) : ∀ (n : Nat) (a : Array Nat), (List.replicate n #[c]).foldl (· ++ ·) a = a ++ (List.replicate n c).toArray
  | 0, a => by simp
  | n + 1, a => by
    rw [List.replicate_succ, List.foldl_cons, fold_rep c n]
    apply Array.ext'
    simp [List.replicate_succ]
def rMulS : R2 := fun x y H Q => ∃ (c n : Nat), x = .str ⟨#[c]⟩ ∧ y = .int (n : Int) ∧ 1 < n ∧ n ≤ 100000 ∧ Q (.str ⟨(List.replicate n c).toArray⟩) H
theorem op_mulS {X : Cx} : OpR X (binaryOp .Mult) rMulS := by
  intro pins s σ H x y v u Q I r1 r2 h
  obtain ⟨c, n, e1, e2, h1, h2, q⟩ := h
  subst e1; subst e2
  obtain ⟨t, rfl⟩ := r1
  obtain ⟨t', rfl⟩ := r2
  have hl : (⟨#[c]⟩ : Str).length = 1 := rfl
  refine P.mul_str (by simp; omega) (fun _ _ => ?_) (fun _ _ => ?_) ?_
  · rw [hl]
    have : (2 ^ 63 - 1 : Int) / (n : Int) ≥ 1 := by
      apply Int.le_ediv_of_mul_le <;> omega
    omega
  · rw [hl]
    have e1 : ((n : Int)).toNat = n := Int.toNat_natCast n
    rw [e1, Nat.one_mul]
    show decide (n > sizeLine) = false
    rw [decide_eq_false_iff_not]
    have := sizeLine_eq
    omega
  · rw [if_neg (by omega), if_neg (by simp [hl]; omega), fold_rep, Int.toNat_natCast]
    have e : (#[] ++ (List.replicate n c).toArray) = (List.replicate n c).toArray := by simp
    rw [e]
    have hz : (⟨(List.replicate n c).toArray⟩ : Str).cps.size ≤ sizeLine := by simp; have := sizeLine_eq; omega
    exact ⟨hz, ⟨.str _, H, I.tok _, ⟨_, rfl⟩, q⟩⟩
end L2
namespace Cs
open PySem PySem.Spec PyProof.Rows L2
def top (i : Nat) : Stmt := PySem.Challenge.pw_codestitch_k93_texts_refused.main.body.getD i (.Pass ⟨0, 0, 0, 0⟩)
def pget (K : PySem.W.Frag) (p : Addr) : Addr := match PySem.W.recIn K p "property" with
  | some (.ref g :: _) => g
  | _ => 0
abbrev s_is_byte : Stmt := top 17
abbrev N_is_byte : List Str := ["value"]
abbrev f_is_byte (K : PySem.W.Frag) : Addr := He.ga K "is_byte"
theorem sc_is_byte : FnScope N_is_byte ["value"] (defScope s_is_byte) := ⟨rfl, rfl, rfl, by decide +kernel, rfl, by decide +kernel, by decide +kernel⟩
abbrev s_is_name : Stmt := top 18
abbrev N_is_name : List Str := ["value", "sign"]
abbrev f_is_name (K : PySem.W.Frag) : Addr := He.ga K "is_name"
theorem sc_is_name : FnScope N_is_name ["value"] (defScope s_is_name) := ⟨rfl, rfl, rfl, by decide +kernel, rfl, by decide +kernel, by decide +kernel⟩
abbrev s_Form___init__ : Stmt := inClass (top 19) 1
abbrev N_Form___init__ : List Str := ["self", "name", "length", "flow", "least"]
abbrev f_Form___init__ (K : PySem.W.Frag) : Addr := He.ma K (He.ga K "Form") "__init__"
theorem sc_Form___init__ : FnScope N_Form___init__ ["self", "name", "length", "flow"] (defScope s_Form___init__) := ⟨rfl, rfl, rfl, by decide +kernel, rfl, by decide +kernel, by decide +kernel⟩
abbrev s_check_forms : Stmt := top 20
abbrev N_check_forms : List Str := ["stop", "forms", "byte", "names"]
abbrev f_check_forms (K : PySem.W.Frag) : Addr := He.ga K "check_forms"
theorem sc_check_forms : FnScope N_check_forms ["stop", "forms"] (defScope s_check_forms) := ⟨rfl, rfl, rfl, by decide +kernel, rfl, by decide +kernel, by decide +kernel⟩
abbrev s_CodeSet___init__ : Stmt := inClass (top 21) 2
abbrev N_CodeSet___init__ : List Str := ["self", "stop", "forms", "byte"]
abbrev f_CodeSet___init__ (K : PySem.W.Frag) : Addr := He.ma K (He.ga K "CodeSet") "__init__"
theorem sc_CodeSet___init__ : FnScope N_CodeSet___init__ ["self", "stop", "forms"] (defScope s_CodeSet___init__) := ⟨rfl, rfl, rfl, by decide +kernel, rfl, by decide +kernel, by decide +kernel⟩
abbrev s_CodeSet___call__ : Stmt := inClass (top 21) 10
abbrev N_CodeSet___call__ : List Str := ["self", "values", "at", "data", "high"]
abbrev f_CodeSet___call__ (K : PySem.W.Frag) : Addr := He.ma K (He.ga K "CodeSet") "__call__"
theorem sc_CodeSet___call__ : FnScope N_CodeSet___call__ ["self", "values", "at"] (defScope s_CodeSet___call__) := ⟨rfl, rfl, rfl, by decide +kernel, rfl, by decide +kernel, by decide +kernel⟩
abbrev s_CodeSet_followers : Stmt := inClass (top 21) 11
abbrev N_CodeSet_followers : List Str := ["self", "instruction", "place", "flow", "high", "distance"]
abbrev f_CodeSet_followers (K : PySem.W.Frag) : Addr := He.ma K (He.ga K "CodeSet") "followers"
theorem sc_CodeSet_followers : FnScope N_CodeSet_followers ["self", "instruction", "place"] (defScope s_CodeSet_followers) := ⟨rfl, rfl, rfl, by decide +kernel, rfl, by decide +kernel, by decide +kernel⟩
abbrev s_Layout___init__ : Stmt := inClass (top 23) 2
abbrev N_Layout___init__ : List Str := ["self", "unit", "chunk"]
abbrev f_Layout___init__ (K : PySem.W.Frag) : Addr := He.ma K (He.ga K "Layout") "__init__"
theorem sc_Layout___init__ : FnScope N_Layout___init__ ["self", "unit", "chunk"] (defScope s_Layout___init__) := ⟨rfl, rfl, rfl, by decide +kernel, rfl, by decide +kernel, by decide +kernel⟩
abbrev s_Layout_unit : Stmt := inClass (top 23) 3
abbrev N_Layout_unit : List Str := ["self"]
abbrev f_Layout_unit (K : PySem.W.Frag) : Addr := pget K (He.ma K (He.ga K "Layout") "unit")
theorem sc_Layout_unit : FnScope N_Layout_unit ["self"] (defScope s_Layout_unit) := ⟨rfl, rfl, rfl, by decide +kernel, rfl, by decide +kernel, by decide +kernel⟩
abbrev s_Layout_chunk : Stmt := inClass (top 23) 5
abbrev N_Layout_chunk : List Str := ["self"]
abbrev f_Layout_chunk (K : PySem.W.Frag) : Addr := pget K (He.ma K (He.ga K "Layout") "chunk")
theorem sc_Layout_chunk : FnScope N_Layout_chunk ["self"] (defScope s_Layout_chunk) := ⟨rfl, rfl, rfl, by decide +kernel, rfl, by decide +kernel, by decide +kernel⟩
abbrev s_is_number : Stmt := top 28
abbrev N_is_number : List Str := ["word", "sign"]
abbrev f_is_number (K : PySem.W.Frag) : Addr := He.ga K "is_number"
theorem sc_is_number : FnScope N_is_number ["word"] (defScope s_is_number) := ⟨rfl, rfl, rfl, by decide +kernel, rfl, by decide +kernel, by decide +kernel⟩
abbrev s_split_lines : Stmt := top 29
abbrev N_split_lines : List Str := ["text", "line"]
abbrev f_split_lines (K : PySem.W.Frag) : Addr := He.ga K "split_lines"
theorem sc_split_lines : FnScope N_split_lines ["text"] (defScope s_split_lines) := ⟨rfl, rfl, rfl, by decide +kernel, rfl, by decide +kernel, by decide +kernel⟩
abbrev s_stands : Stmt := top 30
abbrev N_stands : List Str := ["word", "kind"]
abbrev f_stands (K : PySem.W.Frag) : Addr := He.ga K "stands"
theorem sc_stands : FnScope N_stands ["word", "kind"] (defScope s_stands) := ⟨rfl, rfl, rfl, by decide +kernel, rfl, by decide +kernel, by decide +kernel⟩
abbrev s_check_line : Stmt := top 31
abbrev N_check_line : List Str := ["line", "words", "kinds", "at", "kind"]
abbrev f_check_line (K : PySem.W.Frag) : Addr := He.ga K "check_line"
theorem sc_check_line : FnScope N_check_line ["line", "words", "kinds"] (defScope s_check_line) := ⟨rfl, rfl, rfl, by decide +kernel, rfl, by decide +kernel, by decide +kernel⟩
abbrev s_read_numbers : Stmt := top 32
abbrev N_read_numbers : List Str := ["line", "words", "low", "least", "ascending", "found", "at", "number"]
abbrev f_read_numbers (K : PySem.W.Frag) : Addr := He.ga K "read_numbers"
theorem sc_read_numbers : FnScope N_read_numbers ["line", "words", "low", "least", "ascending"] (defScope s_read_numbers) := ⟨rfl, rfl, rfl, by decide +kernel, rfl, by decide +kernel, by decide +kernel⟩
abbrev s_instruction_at : Stmt := top 34
abbrev N_instruction_at : List Str := ["codes", "values", "place"]
abbrev f_instruction_at (K : PySem.W.Frag) : Addr := He.ga K "instruction_at"
theorem sc_instruction_at : FnScope N_instruction_at ["codes", "values", "place"] (defScope s_instruction_at) := ⟨rfl, rfl, rfl, by decide +kernel, rfl, by decide +kernel, by decide +kernel⟩
abbrev s_explore : Stmt := top 35
abbrev N_explore : List Str := ["codes", "values", "roots", "laid", "waiting", "place", "instruction"]
abbrev f_explore (K : PySem.W.Frag) : Addr := He.ga K "explore"
theorem sc_explore : FnScope N_explore ["codes", "values", "roots"] (defScope s_explore) := ⟨rfl, rfl, rfl, by decide +kernel, rfl, by decide +kernel, by decide +kernel⟩
abbrev s_Program___init__ : Stmt := inClass (top 36) 0
abbrev N_Program___init__ : List Str := ["self", "codes", "values", "roots", "place"]
abbrev f_Program___init__ (K : PySem.W.Frag) : Addr := He.ma K (He.ga K "Program") "__init__"
theorem sc_Program___init__ : FnScope N_Program___init__ ["self", "codes", "values", "roots"] (defScope s_Program___init__) := ⟨rfl, rfl, rfl, by decide +kernel, rfl, by decide +kernel, by decide +kernel⟩
abbrev s_Program___contains__ : Stmt := inClass (top 36) 1
abbrev N_Program___contains__ : List Str := ["self", "x"]
abbrev f_Program___contains__ (K : PySem.W.Frag) : Addr := He.ma K (He.ga K "Program") "__contains__"
theorem sc_Program___contains__ : FnScope N_Program___contains__ ["self", "x"] (defScope s_Program___contains__) := ⟨rfl, rfl, rfl, by decide +kernel, rfl, by decide +kernel, by decide +kernel⟩
abbrev s_Program___iter__ : Stmt := inClass (top 36) 4
abbrev N_Program___iter__ : List Str := ["self"]
abbrev f_Program___iter__ (K : PySem.W.Frag) : Addr := He.ma K (He.ga K "Program") "__iter__"
theorem sc_Program___iter__ : FnScope N_Program___iter__ ["self"] (defScope s_Program___iter__) := ⟨rfl, rfl, rfl, by decide +kernel, rfl, by decide +kernel, by decide +kernel⟩
abbrev s_old_program_of : Stmt := top 38
abbrev N_old_program_of : List Str := ["codes", "values", "roots", "e"]
abbrev f_old_program_of (K : PySem.W.Frag) : Addr := He.ga K "old_program_of"
theorem sc_old_program_of : FnScope N_old_program_of ["codes", "values", "roots"] (defScope s_old_program_of) := ⟨rfl, rfl, rfl, by decide +kernel, rfl, by decide +kernel, by decide +kernel⟩
abbrev s_new_program_of : Stmt := top 39
abbrev N_new_program_of : List Str := ["codes", "values", "roots", "e"]
abbrev f_new_program_of (K : PySem.W.Frag) : Addr := He.ga K "new_program_of"
theorem sc_new_program_of : FnScope N_new_program_of ["codes", "values", "roots"] (defScope s_new_program_of) := ⟨rfl, rfl, rfl, by decide +kernel, rfl, by decide +kernel, by decide +kernel⟩
abbrev s_values_at : Stmt := top 40
abbrev N_values_at : List Str := ["rewrite", "address", "found"]
abbrev f_values_at (K : PySem.W.Frag) : Addr := He.ga K "values_at"
theorem sc_values_at : FnScope N_values_at ["rewrite", "address"] (defScope s_values_at) := ⟨rfl, rfl, rfl, by decide +kernel, rfl, by decide +kernel, by decide +kernel⟩
abbrev s_stop_fits : Stmt := top 41
abbrev N_stop_fits : List Str := ["rewrite", "place", "answer", "old", "new"]
abbrev f_stop_fits (K : PySem.W.Frag) : Addr := He.ga K "stop_fits"
theorem sc_stop_fits : FnScope N_stop_fits ["rewrite", "place", "answer"] (defScope s_stop_fits) := ⟨rfl, rfl, rfl, by decide +kernel, rfl, by decide +kernel, by decide +kernel⟩
abbrev s_look_through : Stmt := top 42
abbrev N_look_through : List Str := ["rewrite", "place", "k", "low", "high"]
abbrev f_look_through (K : PySem.W.Frag) : Addr := He.ga K "look_through"
theorem sc_look_through : FnScope N_look_through ["rewrite"] (defScope s_look_through) := ⟨rfl, rfl, rfl, by decide +kernel, rfl, by decide +kernel, by decide +kernel⟩
abbrev s_Rewrite___init__ : Stmt := inClass (top 43) 0
abbrev N_Rewrite___init__ : List Str := ["self", "codes", "layout", "old", "new", "entries", "standing", "crossings", "stops", "stretches", "both", "many", "address", "pair", "place"]
abbrev f_Rewrite___init__ (K : PySem.W.Frag) : Addr := He.ma K (He.ga K "Rewrite") "__init__"
theorem sc_Rewrite___init__ : FnScope N_Rewrite___init__ ["self", "codes", "layout", "old", "new", "entries", "standing", "crossings", "stops", "stretches"] (defScope s_Rewrite___init__) := ⟨rfl, rfl, rfl, by decide +kernel, rfl, by decide +kernel, by decide +kernel⟩
abbrev s_Reader___init__ : Stmt := inClass (top 45) 0
abbrev N_Reader___init__ : List Str := ["self", "text"]
abbrev f_Reader___init__ (K : PySem.W.Frag) : Addr := He.ma K (He.ga K "Reader") "__init__"
theorem sc_Reader___init__ : FnScope N_Reader___init__ ["self", "text"] (defScope s_Reader___init__) := ⟨rfl, rfl, rfl, by decide +kernel, rfl, by decide +kernel, by decide +kernel⟩
abbrev s_Reader_begins : Stmt := inClass (top 45) 1
abbrev N_Reader_begins : List Str := ["self", "word"]
abbrev f_Reader_begins (K : PySem.W.Frag) : Addr := He.ma K (He.ga K "Reader") "begins"
theorem sc_Reader_begins : FnScope N_Reader_begins ["self", "word"] (defScope s_Reader_begins) := ⟨rfl, rfl, rfl, by decide +kernel, rfl, by decide +kernel, by decide +kernel⟩
abbrev s_Reader_take : Stmt := inClass (top 45) 2
abbrev N_Reader_take : List Str := ["self", "word"]
abbrev f_Reader_take (K : PySem.W.Frag) : Addr := He.ma K (He.ga K "Reader") "take"
theorem sc_Reader_take : FnScope N_Reader_take ["self", "word"] (defScope s_Reader_take) := ⟨rfl, rfl, rfl, by decide +kernel, rfl, by decide +kernel, by decide +kernel⟩
abbrev s_Reader_fixed : Stmt := inClass (top 45) 3
abbrev N_Reader_fixed : List Str := ["self", "word", "kinds", "words"]
abbrev f_Reader_fixed (K : PySem.W.Frag) : Addr := He.ma K (He.ga K "Reader") "fixed"
theorem sc_Reader_fixed : FnScope N_Reader_fixed ["self", "word", "kinds"] (defScope s_Reader_fixed) := ⟨rfl, rfl, rfl, by decide +kernel, rfl, by decide +kernel, by decide +kernel⟩
abbrev s_Reader_numbers : Stmt := inClass (top 45) 4
abbrev N_Reader_numbers : List Str := ["self", "word", "least", "ascending", "words"]
abbrev f_Reader_numbers (K : PySem.W.Frag) : Addr := He.ma K (He.ga K "Reader") "numbers"
theorem sc_Reader_numbers : FnScope N_Reader_numbers ["self", "word", "least", "ascending"] (defScope s_Reader_numbers) := ⟨rfl, rfl, rfl, by decide +kernel, rfl, by decide +kernel, by decide +kernel⟩
abbrev s_Reader_ascends : Stmt := inClass (top 45) 5
abbrev N_Reader_ascends : List Str := ["self", "found", "number"]
abbrev f_Reader_ascends (K : PySem.W.Frag) : Addr := He.ma K (He.ga K "Reader") "ascends"
theorem sc_Reader_ascends : FnScope N_Reader_ascends ["self", "found", "number"] (defScope s_Reader_ascends) := ⟨rfl, rfl, rfl, by decide +kernel, rfl, by decide +kernel, by decide +kernel⟩
abbrev s_Reader_end : Stmt := inClass (top 45) 6
abbrev N_Reader_end : List Str := ["self"]
abbrev f_Reader_end (K : PySem.W.Frag) : Addr := He.ma K (He.ga K "Reader") "end"
theorem sc_Reader_end : FnScope N_Reader_end ["self"] (defScope s_Reader_end) := ⟨rfl, rfl, rfl, by decide +kernel, rfl, by decide +kernel, by decide +kernel⟩
abbrev s_read_forms : Stmt := top 46
abbrev N_read_forms : List Str := ["reader", "bytes_found", "parts", "words", "line"]
abbrev f_read_forms (K : PySem.W.Frag) : Addr := He.ga K "read_forms"
theorem sc_read_forms : FnScope N_read_forms ["reader"] (defScope s_read_forms) := ⟨rfl, rfl, rfl, by decide +kernel, rfl, by decide +kernel, by decide +kernel⟩
abbrev s_read_answers : Stmt := top 47
abbrev N_read_answers : List Str := ["reader", "places", "answers", "words", "line"]
abbrev f_read_answers (K : PySem.W.Frag) : Addr := He.ga K "read_answers"
theorem sc_read_answers : FnScope N_read_answers ["reader"] (defScope s_read_answers) := ⟨rfl, rfl, rfl, by decide +kernel, rfl, by decide +kernel, by decide +kernel⟩
abbrev s_read_stretches : Stmt := top 48
abbrev N_read_stretches : List Str := ["reader", "found", "words"]
abbrev f_read_stretches (K : PySem.W.Frag) : Addr := He.ga K "read_stretches"
theorem sc_read_stretches : FnScope N_read_stretches ["reader"] (defScope s_read_stretches) := ⟨rfl, rfl, rfl, by decide +kernel, rfl, by decide +kernel, by decide +kernel⟩
abbrev s_read_rewrite : Stmt := top 49
abbrev N_read_rewrite : List Str := ["text", "reader", "stop", "firsts", "parts", "sizes", "old", "new", "entries", "standing", "crossings", "stops", "stretches", "forms", "byte", "name", "length", "flow", "codes", "layout"]
abbrev f_read_rewrite (K : PySem.W.Frag) : Addr := He.ga K "read_rewrite"
theorem sc_read_rewrite : FnScope N_read_rewrite ["text"] (defScope s_read_rewrite) := ⟨rfl, rfl, rfl, by decide +kernel, rfl, by decide +kernel, by decide +kernel⟩
abbrev s__law_bag : Stmt := top 51
abbrev N__law_bag : List Str := ["_law_script", "_law_state", "_law_cell"]
abbrev f__law_bag (K : PySem.W.Frag) : Addr := He.ga K "_law_bag"
theorem sc__law_bag : FnScope N__law_bag ["_law_script"] (defScope s__law_bag) := ⟨rfl, rfl, rfl, by decide +kernel, rfl, by decide +kernel, by decide +kernel⟩
abbrev s__law_draw : Stmt := top 52
abbrev N__law_draw : List Str := ["_law_bag_here", "_law_limit", "_law_cell", "_law_mixed", "_law_found"]
abbrev f__law_draw (K : PySem.W.Frag) : Addr := He.ga K "_law_draw"
theorem sc__law_draw : FnScope N__law_draw ["_law_bag_here", "_law_limit"] (defScope s__law_draw) := ⟨rfl, rfl, rfl, by decide +kernel, rfl, by decide +kernel, by decide +kernel⟩
abbrev s__law_same : Stmt := top 53
abbrev N__law_same : List Str := ["_law_actual", "_law_expected", "_law_k"]
abbrev f__law_same (K : PySem.W.Frag) : Addr := He.ga K "_law_same"
theorem sc__law_same : FnScope N__law_same ["_law_actual", "_law_expected"] (defScope s__law_same) := ⟨rfl, rfl, rfl, by decide +kernel, rfl, by decide +kernel, by decide +kernel⟩
abbrev s__law_lines : Stmt := top 54
abbrev N__law_lines : List Str := ["_law_bag_here", "_law_lines_here", "_law_k", "_law_size"]
abbrev f__law_lines (K : PySem.W.Frag) : Addr := He.ga K "_law_lines"
theorem sc__law_lines : FnScope N__law_lines ["_law_bag_here"] (defScope s__law_lines) := ⟨rfl, rfl, rfl, by decide +kernel, rfl, by decide +kernel, by decide +kernel⟩
abbrev s__law_word : Stmt := top 55
abbrev N__law_word : List Str := ["_law_bag_here", "_law_words"]
abbrev f__law_word (K : PySem.W.Frag) : Addr := He.ga K "_law_word"
theorem sc__law_word : FnScope N__law_word ["_law_bag_here"] (defScope s__law_word) := ⟨rfl, rfl, rfl, by decide +kernel, rfl, by decide +kernel, by decide +kernel⟩
abbrev s__law_spoil : Stmt := top 56
abbrev N__law_spoil : List Str := ["_law_bag_here", "_law_lines_here", "_law_kind", "_law_at", "_law_line", "_law_place", "_law_left", "_law_later", "_law_last"]
abbrev f__law_spoil (K : PySem.W.Frag) : Addr := He.ga K "_law_spoil"
theorem sc__law_spoil : FnScope N__law_spoil ["_law_bag_here", "_law_lines_here"] (defScope s__law_spoil) := ⟨rfl, rfl, rfl, by decide +kernel, rfl, by decide +kernel, by decide +kernel⟩
abbrev s__law_number : Stmt := top 57
abbrev N__law_number : List Str := ["_law_word_here", "_law_sign"]
abbrev f__law_number (K : PySem.W.Frag) : Addr := He.ga K "_law_number"
theorem sc__law_number : FnScope N__law_number ["_law_word_here"] (defScope s__law_number) := ⟨rfl, rfl, rfl, by decide +kernel, rfl, by decide +kernel, by decide +kernel⟩
abbrev s__law_fits : Stmt := top 58
abbrev N__law_fits : List Str := ["_law_word_here", "_law_kind"]
abbrev f__law_fits (K : PySem.W.Frag) : Addr := He.ga K "_law_fits"
theorem sc__law_fits : FnScope N__law_fits ["_law_word_here", "_law_kind"] (defScope s__law_fits) := ⟨rfl, rfl, rfl, by decide +kernel, rfl, by decide +kernel, by decide +kernel⟩
abbrev s__law_fixed : Stmt := top 59
abbrev N__law_fixed : List Str := ["_law_words", "_law_kinds", "_law_k"]
abbrev f__law_fixed (K : PySem.W.Frag) : Addr := He.ga K "_law_fixed"
theorem sc__law_fixed : FnScope N__law_fixed ["_law_words", "_law_kinds"] (defScope s__law_fixed) := ⟨rfl, rfl, rfl, by decide +kernel, rfl, by decide +kernel, by decide +kernel⟩
abbrev s__law_numbers : Stmt := top 60
abbrev N__law_numbers : List Str := ["_law_words", "_law_fewest", "_law_ascending", "_law_k"]
abbrev f__law_numbers (K : PySem.W.Frag) : Addr := He.ga K "_law_numbers"
theorem sc__law_numbers : FnScope N__law_numbers ["_law_words", "_law_fewest", "_law_ascending"] (defScope s__law_numbers) := ⟨rfl, rfl, rfl, by decide +kernel, rfl, by decide +kernel, by decide +kernel⟩
abbrev s__law_numbered : Stmt := top 61
abbrev N__law_numbered : List Str := ["_law_words", "_law_kinds", "_law_before"]
abbrev f__law_numbered (K : PySem.W.Frag) : Addr := He.ga K "_law_numbered"
theorem sc__law_numbered : FnScope N__law_numbered ["_law_words", "_law_kinds", "_law_before"] (defScope s__law_numbered) := ⟨rfl, rfl, rfl, by decide +kernel, rfl, by decide +kernel, by decide +kernel⟩
abbrev s__law_wrong : Stmt := top 62
abbrev N__law_wrong : List Str := ["_law_words", "_law_before", "_law_key"]
abbrev f__law_wrong (K : PySem.W.Frag) : Addr := He.ga K "_law_wrong"
theorem sc__law_wrong : FnScope N__law_wrong ["_law_words", "_law_before"] (defScope s__law_wrong) := ⟨rfl, rfl, rfl, by decide +kernel, rfl, by decide +kernel, by decide +kernel⟩
abbrev s__law_next : Stmt := top 63
abbrev N__law_next : List Str := ["_law_key", "_law_order", "_law_at", "_law_word_here"]
abbrev f__law_next (K : PySem.W.Frag) : Addr := He.ga K "_law_next"
theorem sc__law_next : FnScope N__law_next ["_law_key"] (defScope s__law_next) := ⟨rfl, rfl, rfl, by decide +kernel, rfl, by decide +kernel, by decide +kernel⟩
abbrev s__law_due : Stmt := top 64
abbrev N__law_due : List Str := ["_law_lines_here", "_law_key", "_law_before", "_law_at", "_law_words", "_law_wrong_here"]
abbrev f__law_due (K : PySem.W.Frag) : Addr := He.ga K "_law_due"
theorem sc__law_due : FnScope N__law_due ["_law_lines_here"] (defScope s__law_due) := ⟨rfl, rfl, rfl, by decide +kernel, rfl, by decide +kernel, by decide +kernel⟩
abbrev s__law_asked : Stmt := top 65
abbrev N__law_asked : List Str := ["_law_text", "error"]
abbrev f__law_asked (K : PySem.W.Frag) : Addr := He.ga K "_law_asked"
theorem sc__law_asked : FnScope N__law_asked ["_law_text"] (defScope s__law_asked) := ⟨rfl, rfl, rfl, by decide +kernel, rfl, by decide +kernel, by decide +kernel⟩
abbrev s_law : Stmt := top 66
abbrev N_law : List Str := ["_law_script", "_law_bag_here", "_law_k", "_law_lines_here", "_law_spoil_here", "_law_text", "_law_due_here", "_law_words", "_law_line"]
abbrev f_law (K : PySem.W.Frag) : Addr := He.ga K "law"
theorem sc_law : FnScope N_law ["_law_script"] (defScope s_law) := ⟨rfl, rfl, rfl, by decide +kernel, rfl, by decide +kernel, by decide +kernel⟩
abbrev s_BadCodes_init : Stmt := inClass (top 5) 0
abbrev s_BadLayout_init : Stmt := inClass (top 6) 0
abbrev s_UnlikeLengths_init : Stmt := inClass (top 9) 0
abbrev s_BadRewrite_init : Stmt := inClass (top 10) 0
abbrev s_BadText_init : Stmt := inClass (top 11) 0
abbrev s_NotWhole_init : Stmt := inClass (top 12) 0
abbrev s_OldNotWhole_init : Stmt := inClass (top 13) 0
abbrev s_NewNotWhole_init : Stmt := inClass (top 14) 0
abbrev C_Form (K : PySem.W.Frag) : Addr := He.ga K "Form"
abbrev C_CodeSet (K : PySem.W.Frag) : Addr := He.ga K "CodeSet"
abbrev C_Layout (K : PySem.W.Frag) : Addr := He.ga K "Layout"
abbrev C_Program (K : PySem.W.Frag) : Addr := He.ga K "Program"
abbrev C_Rewrite (K : PySem.W.Frag) : Addr := He.ga K "Rewrite"
abbrev C_Reader (K : PySem.W.Frag) : Addr := He.ga K "Reader"
abbrev C_BadCodes (K : PySem.W.Frag) : Addr := He.ga K "BadCodes"
abbrev C_BadLayout (K : PySem.W.Frag) : Addr := He.ga K "BadLayout"
abbrev C_UnlikeLengths (K : PySem.W.Frag) : Addr := He.ga K "UnlikeLengths"
abbrev C_BadRewrite (K : PySem.W.Frag) : Addr := He.ga K "BadRewrite"
abbrev C_BadText (K : PySem.W.Frag) : Addr := He.ga K "BadText"
abbrev C_NotWhole (K : PySem.W.Frag) : Addr := He.ga K "NotWhole"
abbrev C_OldNotWhole (K : PySem.W.Frag) : Addr := He.ga K "OldNotWhole"
abbrev C_NewNotWhole (K : PySem.W.Frag) : Addr := He.ga K "NewNotWhole"
structure Txt (P : Program) (K : PySem.W.Frag) (mg : Str → Option Value) : Prop where
  b_len : mg "len" = none
  b_list : mg "list" = none
  b_sorted : mg "sorted" = none
  b_int : mg "int" = none
  b_isinstance : mg "isinstance" = none
  b_bool : mg "bool" = none
  b_str : mg "str" = none
  b_all : mg "all" = none
  b_set : mg "set" = none
  b_tuple : mg "tuple" = none
  b_iter : mg "iter" = none
  b_range : mg "range" = none
  b_abs : mg "abs" = none
  b_zip : mg "zip" = none
  b_enumerate : mg "enumerate" = none
  c_LETTERS : ∃ t, mg "LETTERS" = some (.str "abcdefghijklmnopqrstuvwxyz" t)
  c_DIGITS : ∃ t, mg "DIGITS" = some (.str "0123456789" t)
  c_MOST_DIGITS : ∃ t, mg "MOST_DIGITS" = some (.int 3 t)
  c_MOST_NUMBER : ∃ t, mg "MOST_NUMBER" = some (.int 255 t)
  F_is_byte : ∃ fd, FunD K "is_byte" "is_byte" (defArgs s_is_byte) (defBody s_is_byte) (defScope s_is_byte) [] [] (f_is_byte K) fd
  g_is_byte : mg "is_byte" = some (.ref (f_is_byte K))
  k_is_byte : PySem.W.keepIn K (.ref (f_is_byte K)) = true
  F_is_name : ∃ fd, FunD K "is_name" "is_name" (defArgs s_is_name) (defBody s_is_name) (defScope s_is_name) [] [] (f_is_name K) fd
  g_is_name : mg "is_name" = some (.ref (f_is_name K))
  k_is_name : PySem.W.keepIn K (.ref (f_is_name K)) = true
  F_Form___init__ : ∃ fd, FunD K "__init__" "Form.__init__" (defArgs s_Form___init__) (defBody s_Form___init__) (defScope s_Form___init__) [] [] (f_Form___init__ K) fd
  F_check_forms : ∃ fd, FunD K "check_forms" "check_forms" (defArgs s_check_forms) (defBody s_check_forms) (defScope s_check_forms) [] [] (f_check_forms K) fd
  g_check_forms : mg "check_forms" = some (.ref (f_check_forms K))
  k_check_forms : PySem.W.keepIn K (.ref (f_check_forms K)) = true
  F_CodeSet___init__ : ∃ fd, FunD K "__init__" "CodeSet.__init__" (defArgs s_CodeSet___init__) (defBody s_CodeSet___init__) (defScope s_CodeSet___init__) [] [] (f_CodeSet___init__ K) fd
  F_CodeSet___call__ : ∃ fd, FunD K "__call__" "CodeSet.__call__" (defArgs s_CodeSet___call__) (defBody s_CodeSet___call__) (defScope s_CodeSet___call__) [] [] (f_CodeSet___call__ K) fd
  F_CodeSet_followers : ∃ fd, FunD K "followers" "CodeSet.followers" (defArgs s_CodeSet_followers) (defBody s_CodeSet_followers) (defScope s_CodeSet_followers) [] [] (f_CodeSet_followers K) fd
  F_Layout___init__ : ∃ fd, FunD K "__init__" "Layout.__init__" (defArgs s_Layout___init__) (defBody s_Layout___init__) (defScope s_Layout___init__) [(.int 1 : V), (.int 1 : V)] [] (f_Layout___init__ K) fd
  F_Layout_unit : ∃ fd, FunD K "unit" "Layout.unit" (defArgs s_Layout_unit) (defBody s_Layout_unit) (defScope s_Layout_unit) [] [] (f_Layout_unit K) fd
  F_Layout_chunk : ∃ fd, FunD K "chunk" "Layout.chunk" (defArgs s_Layout_chunk) (defBody s_Layout_chunk) (defScope s_Layout_chunk) [] [] (f_Layout_chunk K) fd
  F_is_number : ∃ fd, FunD K "is_number" "is_number" (defArgs s_is_number) (defBody s_is_number) (defScope s_is_number) [] [] (f_is_number K) fd
  g_is_number : mg "is_number" = some (.ref (f_is_number K))
  k_is_number : PySem.W.keepIn K (.ref (f_is_number K)) = true
  F_split_lines : ∃ fd, FunD K "split_lines" "split_lines" (defArgs s_split_lines) (defBody s_split_lines) (defScope s_split_lines) [] [] (f_split_lines K) fd
  g_split_lines : mg "split_lines" = some (.ref (f_split_lines K))
  k_split_lines : PySem.W.keepIn K (.ref (f_split_lines K)) = true
  F_stands : ∃ fd, FunD K "stands" "stands" (defArgs s_stands) (defBody s_stands) (defScope s_stands) [] [] (f_stands K) fd
  g_stands : mg "stands" = some (.ref (f_stands K))
  k_stands : PySem.W.keepIn K (.ref (f_stands K)) = true
  F_check_line : ∃ fd, FunD K "check_line" "check_line" (defArgs s_check_line) (defBody s_check_line) (defScope s_check_line) [] [] (f_check_line K) fd
  g_check_line : mg "check_line" = some (.ref (f_check_line K))
  k_check_line : PySem.W.keepIn K (.ref (f_check_line K)) = true
  F_read_numbers : ∃ fd, FunD K "read_numbers" "read_numbers" (defArgs s_read_numbers) (defBody s_read_numbers) (defScope s_read_numbers) [] [("least", .int 0), ("ascending", .bl false)] (f_read_numbers K) fd
  g_read_numbers : mg "read_numbers" = some (.ref (f_read_numbers K))
  k_read_numbers : PySem.W.keepIn K (.ref (f_read_numbers K)) = true
  F_instruction_at : ∃ fd, FunD K "instruction_at" "instruction_at" (defArgs s_instruction_at) (defBody s_instruction_at) (defScope s_instruction_at) [] [] (f_instruction_at K) fd
  g_instruction_at : mg "instruction_at" = some (.ref (f_instruction_at K))
  k_instruction_at : PySem.W.keepIn K (.ref (f_instruction_at K)) = true
  F_explore : ∃ fd, FunD K "explore" "explore" (defArgs s_explore) (defBody s_explore) (defScope s_explore) [] [] (f_explore K) fd
  g_explore : mg "explore" = some (.ref (f_explore K))
  k_explore : PySem.W.keepIn K (.ref (f_explore K)) = true
  F_Program___init__ : ∃ fd, FunD K "__init__" "Program.__init__" (defArgs s_Program___init__) (defBody s_Program___init__) (defScope s_Program___init__) [] [] (f_Program___init__ K) fd
  F_Program___contains__ : ∃ fd, FunD K "__contains__" "Program.__contains__" (defArgs s_Program___contains__) (defBody s_Program___contains__) (defScope s_Program___contains__) [] [] (f_Program___contains__ K) fd
  F_Program___iter__ : ∃ fd, FunD K "__iter__" "Program.__iter__" (defArgs s_Program___iter__) (defBody s_Program___iter__) (defScope s_Program___iter__) [] [] (f_Program___iter__ K) fd
  F_old_program_of : ∃ fd, FunD K "old_program_of" "old_program_of" (defArgs s_old_program_of) (defBody s_old_program_of) (defScope s_old_program_of) [] [] (f_old_program_of K) fd
  g_old_program_of : mg "old_program_of" = some (.ref (f_old_program_of K))
  k_old_program_of : PySem.W.keepIn K (.ref (f_old_program_of K)) = true
  F_new_program_of : ∃ fd, FunD K "new_program_of" "new_program_of" (defArgs s_new_program_of) (defBody s_new_program_of) (defScope s_new_program_of) [] [] (f_new_program_of K) fd
  g_new_program_of : mg "new_program_of" = some (.ref (f_new_program_of K))
  k_new_program_of : PySem.W.keepIn K (.ref (f_new_program_of K)) = true
  F_values_at : ∃ fd, FunD K "values_at" "values_at" (defArgs s_values_at) (defBody s_values_at) (defScope s_values_at) [] [] (f_values_at K) fd
  g_values_at : mg "values_at" = some (.ref (f_values_at K))
  k_values_at : PySem.W.keepIn K (.ref (f_values_at K)) = true
  F_stop_fits : ∃ fd, FunD K "stop_fits" "stop_fits" (defArgs s_stop_fits) (defBody s_stop_fits) (defScope s_stop_fits) [] [] (f_stop_fits K) fd
  g_stop_fits : mg "stop_fits" = some (.ref (f_stop_fits K))
  k_stop_fits : PySem.W.keepIn K (.ref (f_stop_fits K)) = true
  F_look_through : ∃ fd, FunD K "look_through" "look_through" (defArgs s_look_through) (defBody s_look_through) (defScope s_look_through) [] [] (f_look_through K) fd
  g_look_through : mg "look_through" = some (.ref (f_look_through K))
  k_look_through : PySem.W.keepIn K (.ref (f_look_through K)) = true
  F_Rewrite___init__ : ∃ fd, FunD K "__init__" "Rewrite.__init__" (defArgs s_Rewrite___init__) (defBody s_Rewrite___init__) (defScope s_Rewrite___init__) [] [("crossings", .non), ("stops", .non)] (f_Rewrite___init__ K) fd
  F_Reader___init__ : ∃ fd, FunD K "__init__" "Reader.__init__" (defArgs s_Reader___init__) (defBody s_Reader___init__) (defScope s_Reader___init__) [] [] (f_Reader___init__ K) fd
  F_Reader_begins : ∃ fd, FunD K "begins" "Reader.begins" (defArgs s_Reader_begins) (defBody s_Reader_begins) (defScope s_Reader_begins) [] [] (f_Reader_begins K) fd
  F_Reader_take : ∃ fd, FunD K "take" "Reader.take" (defArgs s_Reader_take) (defBody s_Reader_take) (defScope s_Reader_take) [] [] (f_Reader_take K) fd
  F_Reader_fixed : ∃ fd, FunD K "fixed" "Reader.fixed" (defArgs s_Reader_fixed) (defBody s_Reader_fixed) (defScope s_Reader_fixed) [] [] (f_Reader_fixed K) fd
  F_Reader_numbers : ∃ fd, FunD K "numbers" "Reader.numbers" (defArgs s_Reader_numbers) (defBody s_Reader_numbers) (defScope s_Reader_numbers) [] [] (f_Reader_numbers K) fd
  F_Reader_ascends : ∃ fd, FunD K "ascends" "Reader.ascends" (defArgs s_Reader_ascends) (defBody s_Reader_ascends) (defScope s_Reader_ascends) [] [] (f_Reader_ascends K) fd
  F_Reader_end : ∃ fd, FunD K "end" "Reader.end" (defArgs s_Reader_end) (defBody s_Reader_end) (defScope s_Reader_end) [] [] (f_Reader_end K) fd
  F_read_forms : ∃ fd, FunD K "read_forms" "read_forms" (defArgs s_read_forms) (defBody s_read_forms) (defScope s_read_forms) [] [] (f_read_forms K) fd
  g_read_forms : mg "read_forms" = some (.ref (f_read_forms K))
  k_read_forms : PySem.W.keepIn K (.ref (f_read_forms K)) = true
  F_read_answers : ∃ fd, FunD K "read_answers" "read_answers" (defArgs s_read_answers) (defBody s_read_answers) (defScope s_read_answers) [] [] (f_read_answers K) fd
  g_read_answers : mg "read_answers" = some (.ref (f_read_answers K))
  k_read_answers : PySem.W.keepIn K (.ref (f_read_answers K)) = true
  F_read_stretches : ∃ fd, FunD K "read_stretches" "read_stretches" (defArgs s_read_stretches) (defBody s_read_stretches) (defScope s_read_stretches) [] [] (f_read_stretches K) fd
  g_read_stretches : mg "read_stretches" = some (.ref (f_read_stretches K))
  k_read_stretches : PySem.W.keepIn K (.ref (f_read_stretches K)) = true
  F_read_rewrite : ∃ fd, FunD K "read_rewrite" "read_rewrite" (defArgs s_read_rewrite) (defBody s_read_rewrite) (defScope s_read_rewrite) [] [] (f_read_rewrite K) fd
  g_read_rewrite : mg "read_rewrite" = some (.ref (f_read_rewrite K))
  k_read_rewrite : PySem.W.keepIn K (.ref (f_read_rewrite K)) = true
  F__law_bag : ∃ fd, FunD K "_law_bag" "_law_bag" (defArgs s__law_bag) (defBody s__law_bag) (defScope s__law_bag) [] [] (f__law_bag K) fd
  g__law_bag : mg "_law_bag" = some (.ref (f__law_bag K))
  k__law_bag : PySem.W.keepIn K (.ref (f__law_bag K)) = true
  F__law_draw : ∃ fd, FunD K "_law_draw" "_law_draw" (defArgs s__law_draw) (defBody s__law_draw) (defScope s__law_draw) [] [] (f__law_draw K) fd
  g__law_draw : mg "_law_draw" = some (.ref (f__law_draw K))
  k__law_draw : PySem.W.keepIn K (.ref (f__law_draw K)) = true
  F__law_same : ∃ fd, FunD K "_law_same" "_law_same" (defArgs s__law_same) (defBody s__law_same) (defScope s__law_same) [] [] (f__law_same K) fd
  g__law_same : mg "_law_same" = some (.ref (f__law_same K))
  k__law_same : PySem.W.keepIn K (.ref (f__law_same K)) = true
  F__law_lines : ∃ fd, FunD K "_law_lines" "_law_lines" (defArgs s__law_lines) (defBody s__law_lines) (defScope s__law_lines) [] [] (f__law_lines K) fd
  g__law_lines : mg "_law_lines" = some (.ref (f__law_lines K))
  k__law_lines : PySem.W.keepIn K (.ref (f__law_lines K)) = true
  F__law_word : ∃ fd, FunD K "_law_word" "_law_word" (defArgs s__law_word) (defBody s__law_word) (defScope s__law_word) [] [] (f__law_word K) fd
  g__law_word : mg "_law_word" = some (.ref (f__law_word K))
  k__law_word : PySem.W.keepIn K (.ref (f__law_word K)) = true
  F__law_spoil : ∃ fd, FunD K "_law_spoil" "_law_spoil" (defArgs s__law_spoil) (defBody s__law_spoil) (defScope s__law_spoil) [] [] (f__law_spoil K) fd
  g__law_spoil : mg "_law_spoil" = some (.ref (f__law_spoil K))
  k__law_spoil : PySem.W.keepIn K (.ref (f__law_spoil K)) = true
  F__law_number : ∃ fd, FunD K "_law_number" "_law_number" (defArgs s__law_number) (defBody s__law_number) (defScope s__law_number) [] [] (f__law_number K) fd
  g__law_number : mg "_law_number" = some (.ref (f__law_number K))
  k__law_number : PySem.W.keepIn K (.ref (f__law_number K)) = true
  F__law_fits : ∃ fd, FunD K "_law_fits" "_law_fits" (defArgs s__law_fits) (defBody s__law_fits) (defScope s__law_fits) [] [] (f__law_fits K) fd
  g__law_fits : mg "_law_fits" = some (.ref (f__law_fits K))
  k__law_fits : PySem.W.keepIn K (.ref (f__law_fits K)) = true
  F__law_fixed : ∃ fd, FunD K "_law_fixed" "_law_fixed" (defArgs s__law_fixed) (defBody s__law_fixed) (defScope s__law_fixed) [] [] (f__law_fixed K) fd
  g__law_fixed : mg "_law_fixed" = some (.ref (f__law_fixed K))
  k__law_fixed : PySem.W.keepIn K (.ref (f__law_fixed K)) = true
  F__law_numbers : ∃ fd, FunD K "_law_numbers" "_law_numbers" (defArgs s__law_numbers) (defBody s__law_numbers) (defScope s__law_numbers) [] [] (f__law_numbers K) fd
  g__law_numbers : mg "_law_numbers" = some (.ref (f__law_numbers K))
  k__law_numbers : PySem.W.keepIn K (.ref (f__law_numbers K)) = true
  F__law_numbered : ∃ fd, FunD K "_law_numbered" "_law_numbered" (defArgs s__law_numbered) (defBody s__law_numbered) (defScope s__law_numbered) [] [] (f__law_numbered K) fd
  g__law_numbered : mg "_law_numbered" = some (.ref (f__law_numbered K))
  k__law_numbered : PySem.W.keepIn K (.ref (f__law_numbered K)) = true
  F__law_wrong : ∃ fd, FunD K "_law_wrong" "_law_wrong" (defArgs s__law_wrong) (defBody s__law_wrong) (defScope s__law_wrong) [] [] (f__law_wrong K) fd
  g__law_wrong : mg "_law_wrong" = some (.ref (f__law_wrong K))
  k__law_wrong : PySem.W.keepIn K (.ref (f__law_wrong K)) = true
  F__law_next : ∃ fd, FunD K "_law_next" "_law_next" (defArgs s__law_next) (defBody s__law_next) (defScope s__law_next) [] [] (f__law_next K) fd
  g__law_next : mg "_law_next" = some (.ref (f__law_next K))
  k__law_next : PySem.W.keepIn K (.ref (f__law_next K)) = true
  F__law_due : ∃ fd, FunD K "_law_due" "_law_due" (defArgs s__law_due) (defBody s__law_due) (defScope s__law_due) [] [] (f__law_due K) fd
  g__law_due : mg "_law_due" = some (.ref (f__law_due K))
  k__law_due : PySem.W.keepIn K (.ref (f__law_due K)) = true
  F__law_asked : ∃ fd, FunD K "_law_asked" "_law_asked" (defArgs s__law_asked) (defBody s__law_asked) (defScope s__law_asked) [] [] (f__law_asked K) fd
  g__law_asked : mg "_law_asked" = some (.ref (f__law_asked K))
  k__law_asked : PySem.W.keepIn K (.ref (f__law_asked K)) = true
  F_law : ∃ fd, FunD K "law" "law" (defArgs s_law) (defBody s_law) (defScope s_law) [] [] (f_law K) fd
  g_law : mg "law" = some (.ref (f_law K))
  k_law : PySem.W.keepIn K (.ref (f_law K)) = true
  g_Form : mg "Form" = some (.ref (C_Form K))
  cl_Form : Cls K (C_Form K)
  mk_Form : Mk K (C_Form K) (f_Form___init__ K)
  n_Form_name : NoAttr K (C_Form K) "name"
  n_Form_length : NoAttr K (C_Form K) "length"
  n_Form_flow : NoAttr K (C_Form K) "flow"
  g_CodeSet : mg "CodeSet" = some (.ref (C_CodeSet K))
  cl_CodeSet : Cls K (C_CodeSet K)
  mk_CodeSet : Mk K (C_CodeSet K) (f_CodeSet___init__ K)
  n_CodeSet_stop : NoAttr K (C_CodeSet K) "stop"
  n_CodeSet_order : NoAttr K (C_CodeSet K) "order"
  n_CodeSet_table : NoAttr K (C_CodeSet K) "table"
  m_CodeSet_followers : Meth K (C_CodeSet K) "followers" (f_CodeSet_followers K)
  g_Layout : mg "Layout" = some (.ref (C_Layout K))
  cl_Layout : Cls K (C_Layout K)
  mk_Layout : Mk K (C_Layout K) (f_Layout___init__ K)
  n_Layout_held_unit : NoAttr K (C_Layout K) "held_unit"
  n_Layout_held_chunk : NoAttr K (C_Layout K) "held_chunk"
  g_Program : mg "Program" = some (.ref (C_Program K))
  cl_Program : Cls K (C_Program K)
  mk_Program : Mk K (C_Program K) (f_Program___init__ K)
  n_Program_roots : NoAttr K (C_Program K) "roots"
  n_Program_laid : NoAttr K (C_Program K) "laid"
  n_Program_spots : NoAttr K (C_Program K) "spots"
  n_Program_leads : NoAttr K (C_Program K) "leads"
  g_Rewrite : mg "Rewrite" = some (.ref (C_Rewrite K))
  cl_Rewrite : Cls K (C_Rewrite K)
  mk_Rewrite : Mk K (C_Rewrite K) (f_Rewrite___init__ K)
  n_Rewrite_codes : NoAttr K (C_Rewrite K) "codes"
  n_Rewrite_laid_out : NoAttr K (C_Rewrite K) "laid_out"
  n_Rewrite_old : NoAttr K (C_Rewrite K) "old"
  n_Rewrite_new : NoAttr K (C_Rewrite K) "new"
  n_Rewrite_entries : NoAttr K (C_Rewrite K) "entries"
  n_Rewrite_stood : NoAttr K (C_Rewrite K) "stood"
  n_Rewrite_stretches : NoAttr K (C_Rewrite K) "stretches"
  n_Rewrite_old_program : NoAttr K (C_Rewrite K) "old_program"
  n_Rewrite_new_program : NoAttr K (C_Rewrite K) "new_program"
  n_Rewrite_answers : NoAttr K (C_Rewrite K) "answers"
  n_Rewrite_told_ones : NoAttr K (C_Rewrite K) "told_ones"
  n_Rewrite_crossed : NoAttr K (C_Rewrite K) "crossed"
  n_Rewrite_open_ones : NoAttr K (C_Rewrite K) "open_ones"
  n_Rewrite_many_images : NoAttr K (C_Rewrite K) "many_images"
  g_Reader : mg "Reader" = some (.ref (C_Reader K))
  cl_Reader : Cls K (C_Reader K)
  mk_Reader : Mk K (C_Reader K) (f_Reader___init__ K)
  n_Reader_lines : NoAttr K (C_Reader K) "lines"
  n_Reader_at : NoAttr K (C_Reader K) "at"
  m_Reader_begins : Meth K (C_Reader K) "begins" (f_Reader_begins K)
  m_Reader_take : Meth K (C_Reader K) "take" (f_Reader_take K)
  m_Reader_fixed : Meth K (C_Reader K) "fixed" (f_Reader_fixed K)
  m_Reader_numbers : Meth K (C_Reader K) "numbers" (f_Reader_numbers K)
  m_Reader_ascends : Meth K (C_Reader K) "ascends" (f_Reader_ascends K)
  m_Reader_end : Meth K (C_Reader K) "end" (f_Reader_end K)
  p_Layout_unit : PropOf K (C_Layout K) "unit" (He.ma K (C_Layout K) "unit") (f_Layout_unit K)
  p_Layout_chunk : PropOf K (C_Layout K) "chunk" (He.ma K (C_Layout K) "chunk") (f_Layout_chunk K)
  co_CodeSet : StX.CallO K (C_CodeSet K) (f_CodeSet___call__ K)
  x_BadCodes : SupX.SupC P K mg "BadCodes" (C_BadCodes K) (He.ma K (C_BadCodes K) "__init__") ["part"]
  x_BadLayout : SupX.SupC P K mg "BadLayout" (C_BadLayout K) (He.ma K (C_BadLayout K) "__init__") ["part"]
  x_UnlikeLengths : SupX.SupC P K mg "UnlikeLengths" (C_UnlikeLengths K) (He.ma K (C_UnlikeLengths K) "__init__") ["one", "other"]
  x_BadRewrite : SupX.SupC P K mg "BadRewrite" (C_BadRewrite K) (He.ma K (C_BadRewrite K) "__init__") ["part", "at"]
  x_BadText : SupX.SupC P K mg "BadText" (C_BadText K) (He.ma K (C_BadText K) "__init__") ["line", "word"]
  x_NotWhole : SupX.SupC P K mg "NotWhole" (C_NotWhole K) (He.ma K (C_NotWhole K) "__init__") ["place"]
  x_OldNotWhole : SupX.SupC P K mg "OldNotWhole" (C_OldNotWhole K) (He.ma K (C_OldNotWhole K) "__init__") ["place"]
  x_NewNotWhole : SupX.SupC P K mg "NewNotWhole" (C_NewNotWhole K) (He.ma K (C_NewNotWhole K) "__init__") ["place"]
  cv_Form_FLOWS : Ru.KTupC K (C_Form K) "FLOWS" [.str "next", .str "jump", .str "test", .str "end"]
  cv_Layout_UNITS : Ru.KTupC K (C_Layout K) "UNITS" [.int 1, .int 2, .int 4, .int 8]
  cv_Layout_CHUNKS : Ru.KTupC K (C_Layout K) "CHUNKS" [.int 1, .int 2, .int 4, .int 8, .int 16]
  cv_CodeSet_MOST_FORMS : ∃ mc u, ClX.CRead K (C_CodeSet K) mc ∧ ClX.CVal K (C_CodeSet K) mc "MOST_FORMS" (.int 16) u
  m_Program___contains__ : Meth K (C_Program K) "__contains__" (f_Program___contains__ K)
  m_Program___iter__ : Meth K (C_Program K) "__iter__" (f_Program___iter__ K)
  xf_NotWhole : XfC K (C_NotWhole K)
  nx_NotWhole_place : PySem.W.findIn K (.ref (C_NotWhole K)) "place" = some none
  ex_NotWhole : PySem.W.exmOne K (.ref (C_NotWhole K)) (.ref (C_NotWhole K)) = some true
  g_CodeError : mg "CodeError" = some (.ref (He.ga K "CodeError"))
  g_BadInput : mg "BadInput" = some (.ref (He.ga K "BadInput"))
  g_NotRight : mg "NotRight" = some (.ref (He.ga K "NotRight"))
  oth : ∀ C ∈ [C_BadCodes K, C_BadLayout K, C_UnlikeLengths K, C_BadRewrite K, C_OldNotWhole K, C_NewNotWhole K], ExcC K C ∧ PySem.W.exmOne K (.ref C) (.ref (He.ga K "CodeError")) = some true ∧ PySem.W.kitOne K (.ref C) (.ref (C_BadText K)) = some false
  bt_c : ExcC K (C_BadText K)
  bt_x : PySem.W.exmOne K (.ref (C_BadText K)) (.ref (He.ga K "CodeError")) = some true
  bt_1 : PySem.W.kitOne K (.ref (C_BadText K)) (.ref (C_BadText K)) = some true
  bt_2 : PySem.W.kitOne K (.ref (C_BadText K)) (.ref (He.ga K "BadInput")) = some true
  bt_3 : PySem.W.kitOne K (.ref (C_BadText K)) (.ref (He.ga K "NotRight")) = some false
  xf_BadText : XfC K (C_BadText K)
  nx_BadText_line : PySem.W.findIn K (.ref (C_BadText K)) "line" = some none
  nx_BadText_word : PySem.W.findIn K (.ref (C_BadText K)) "word" = some none
end Cs
namespace Hx
open PySem PySem.Spec PyProof.Rows L2
abbrev FnY : Type := Option ((Str × Str × Arguments) × (FuncBody × Scope) × (Addr × Addr))
def fnY (K : PySem.W.Frag) (f : Addr) : FnY := match K.lookup f with
  | some o => (match o.data with
    | .func d => some ((d.name, d.qualname, d.params), (d.body, d.scope), (d.globals, d.builtins))
    | _ => none)
  | none => none
def yOf (name qual : Str) (st : Stmt) : FnY := some ((name, qual, defArgs st), (.stmts (defBody st), defScope st), (mainGlobals, builtinsNs))
def funAt (K : PySem.W.Frag) (f : Addr) (t : FuncData → Bool) : Bool := match K.lookup f with
  | some o => (match o.data with
    | .func d => t d
    | _ => false)
  | none => false
theorem funAt_ok {K : PySem.W.Frag} {f : Addr} {t : FuncData → Bool} (h : funAt K f t = true) : ∃ oc od d osl, K.lookup f = some ⟨oc, od, .func d, osl⟩ ∧ t d = true := by
  unfold funAt at h
  split at h
  · rename_i o ho
    obtain ⟨oc, od, dt, osl⟩ := o
    split at h
    · rename_i d hd
      have hd : dt = .func d := hd
      subst hd
      exact ⟨oc, od, d, osl, ho, h⟩
    · cases h
  · cases h
theorem fnY_at {K : PySem.W.Frag} {f : Addr} {oc : Value} {od : Option Addr} {d : FuncData} {osl : Array (Option Value)} {name qual : Str} {st : Stmt} (h : K.lookup f = some ⟨oc, od, .func d, osl⟩) (e : fnY K f = yOf name qual st) :
    d.name = name ∧ d.qualname = qual ∧ d.params = defArgs st ∧ d.body = .stmts (defBody st) ∧ d.scope = defScope st ∧ d.globals = mainGlobals ∧ d.builtins = builtinsNs := by
  unfold fnY at e
  rw [h] at e
  replace e : (some ((d.name, d.qualname, d.params), (d.body, d.scope), (d.globals, d.builtins)) : FnY) = yOf name qual st := e
  unfold yOf at e
  simp only [Option.some.injEq, Prod.mk.injEq] at e
  obtain ⟨⟨h1, h2, h3⟩, ⟨h4, h5⟩, h6, h7⟩ := e
  exact ⟨h1, h2, h3, h4, h5, h6, h7⟩
def funB (K : PySem.W.Frag) (f : Addr) (qual : Str) (dvs : List V) (kws : List (Str × V)) : Bool := PySem.W.keepIn K (.ref f) && funAt K f fun d => d.closure.isEmpty && (PySem.W.codeIn K d.code qual && (He.dflB K d.defaults dvs && He.kwdB K d.kwdefaults kws))
theorem funD_of {K : PySem.W.Frag} {f : Addr} {name qual : Str} {st : Stmt} {dvs : List V} {kws : List (Str × V)} (e : fnY K f = yOf name qual st) (c : funB K f qual dvs kws = true) : ∃ fd, FunD K name qual (defArgs st) (defBody st) (defScope st) dvs kws f fd := by
  obtain ⟨kp, c⟩ := He.ba c
  obtain ⟨oc, od, d, osl, hk, c⟩ := funAt_ok c
  obtain ⟨h1, h2, h3, h4, h5, h6, h7⟩ := fnY_at hk e
  obtain ⟨c1, c⟩ := He.ba c
  obtain ⟨c2, c⟩ := He.ba c
  obtain ⟨c3, c4⟩ := He.ba c
  obtain ⟨n1, n2, n3, n4, n5, n6, n7, n8, n9, n10, n11, n12, n13, n14, n15⟩ := d
  dsimp only at h1 h2 h3 h4 h5 h6 h7 c1 c2 c3 c4
  have h8 : n7 = [] := List.isEmpty_iff.mp c1
  subst h1 h2 h3 h4 h5 h6 h7 h8
  exact ⟨_, ⟨oc, od, n8, n9, n10, n11, n12, n13, n14, osl, rfl, hk, c2, He.dflB_ok c3, He.kwdB_ok c4⟩, kp⟩
def propB (K : PySem.W.Frag) (C : Addr) (f : Str) (p : Addr) : Bool := He.eqO (PySem.W.findIn K (.ref C) f) (some (some (.ref p))) && (He.eqO (PySem.W.specialIn K (.ref p) "__get__") (some (some (.builtin "property.__get__"))) && (decide (PySem.W.takesIn K (.ref p) = some true) && (match PySem.W.recIn K p "property" with
  | some (.ref _ :: _) => true
  | _ => false)))
theorem prop_of {K : PySem.W.Frag} {C : Addr} {f : Str} {p : Addr} (h : propB K C f p = true) : PropOf K C f p (Cs.pget K p) := by
  obtain ⟨h1, h⟩ := He.ba h
  obtain ⟨h2, h⟩ := He.ba h
  obtain ⟨h3, h4⟩ := He.ba h
  refine ⟨He.eqO_ok h1, He.eqO_ok h2, of_decide_eq_true h3, ?_⟩
  unfold Cs.pget
  split at h4
  · rename_i g rest hr
    exact ⟨rest, by rw [hr]⟩
  · cases h4
def callB (K : PySem.W.Frag) (C g : Addr) : Bool := He.eqO (PySem.W.findIn K (.ref C) "__call__") (some (some (.ref g))) && (PySem.W.isFn K (.ref g) && PySem.W.fnIn K g)
theorem call_of {K : PySem.W.Frag} {C g : Addr} (h : callB K C g = true) : StX.CallO K C g := by
  obtain ⟨h1, h⟩ := He.ba h
  obtain ⟨h2, h3⟩ := He.ba h
  exact ⟨He.eqO_ok h1, h2, h3⟩
def creadB (K : PySem.W.Frag) (C : Addr) : Bool := PySem.W.readsIn K C (.type "type") && He.eqO (PySem.W.specialIn K (.ref C) "__getattribute__") (some (some (.builtin "type.__getattribute__")))
theorem cread_of {K : PySem.W.Frag} {C : Addr} (h : creadB K C = true) : ClX.CRead K C (.type "type") := by
  obtain ⟨h1, h2⟩ := He.ba h
  exact ⟨h1, He.eqO_ok h2⟩
def ktupB (K : PySem.W.Frag) (C : Addr) (f : Str) (xs : List V) : Bool := creadB K C && (match PySem.W.findCls K (.ref C) (.type "type") f with
  | some (.val (.ref a)) => (match K.lookup a with
    | some o => (match o.cls, o.data with
      | .type c, .seq its _ => decide (c = "tuple") && (decide (its.size ≤ sizeLine) && He.relAll xs its.toList)
      | _, _ => false)
    | none => false)
  | _ => false)
theorem ktup_of {K : PySem.W.Frag} {C : Addr} {f : Str} {xs : List V} (h : ktupB K C f xs = true) : Ru.KTupC K C f xs := by
  obtain ⟨h1, h⟩ := He.ba h
  split at h
  · rename_i a ha
    split at h
    · rename_i o ho
      obtain ⟨oc, od, dt, osl⟩ := o
      split at h
      · rename_i c its n hc hd
        have hc : oc = .type c := hc
        have hd : dt = .seq its n := hd
        subst hc hd
        obtain ⟨h2, h⟩ := He.ba h
        obtain ⟨h3, h4⟩ := He.ba h
        exact ⟨.type "type", a, cread_of h1, ⟨ha, rfl⟩, fun H => .inr ⟨_, its, n, ho, congrArg Value.type (of_decide_eq_true h2), rfl, of_decide_eq_true h3, He.relAll_ok h4⟩⟩
      · cases h
    · cases h
  · cases h
def kintB (K : PySem.W.Frag) (C : Addr) (f : Str) (i : Int) : Bool := creadB K C && (match PySem.W.findCls K (.ref C) (.type "type") f with
  | some (.val (.int j _)) => decide (i = j)
  | _ => false)
theorem kint_of {K : PySem.W.Frag} {C : Addr} {f : Str} {i : Int} (h : kintB K C f i = true) : ∃ mc u, ClX.CRead K C mc ∧ ClX.CVal K C mc f (.int i) u := by
  obtain ⟨h1, h⟩ := He.ba h
  split at h
  · rename_i j t hj
    have e := of_decide_eq_true h
    subst e
    exact ⟨.type "type", _, cread_of h1, ⟨hj, ⟨t, rfl⟩⟩⟩
  · cases h
def excCB (K : PySem.W.Frag) (D : Addr) : Bool := He.eqO (PySem.W.findIn K (.ref D) "__getattribute__") (some (some (.builtin "BaseException.__getattribute__"))) && (He.eqO (PySem.W.findIn K (.ref D) "__getattr__") (some none) && (decide (PySem.W.subIn K (.ref D) (.type "BaseException") = some true) && (PySem.W.hasDictIn K D &&
  (He.eqO (PySem.W.findIn K (.ref D) "__class__") (some (some (.builtin "object.__class__"))) && (He.eqO (PySem.W.specialIn K (.builtin "object.__class__") "__get__") (some (some (.builtin "getset_descriptor.__get__"))) && (decide (PySem.W.takesIn K (.builtin "object.__class__") = some true) && decide (PySem.W.mroIn K D (.type "object") = some true)))))))
theorem excC_of {K : PySem.W.Frag} {D : Addr} (h : excCB K D = true) : ExcC K D := by
  obtain ⟨h1, h⟩ := He.ba h
  obtain ⟨h2, h⟩ := He.ba h
  obtain ⟨h3, h⟩ := He.ba h
  obtain ⟨h4, h⟩ := He.ba h
  obtain ⟨h5, h⟩ := He.ba h
  obtain ⟨h6, h⟩ := He.ba h
  obtain ⟨h7, h8⟩ := He.ba h
  exact ⟨He.eqO_ok h1, He.eqO_ok h2, of_decide_eq_true h3, h4, He.eqO_ok h5, He.eqO_ok h6, of_decide_eq_true h7, of_decide_eq_true h8⟩
def exmB (K : PySem.W.Frag) (C D : Addr) (b : Bool) : Bool := decide (PySem.W.exmOne K (.ref C) (.ref D) = some b)
theorem exm_of {K : PySem.W.Frag} {C D : Addr} {b : Bool} (h : exmB K C D b = true) : PySem.W.exmOne K (.ref C) (.ref D) = some b := of_decide_eq_true h
def kitB1 (K : PySem.W.Frag) (C D : Addr) (b : Bool) : Bool := decide (PySem.W.kitOne K (.ref C) (.ref D) = some b)
theorem kit_of1 {K : PySem.W.Frag} {C D : Addr} {b : Bool} (h : kitB1 K C D b = true) : PySem.W.kitOne K (.ref C) (.ref D) = some b := of_decide_eq_true h
end Hx
namespace SupX
open PySem PySem.W PySem.Calls PyProof.Rows PySem.HandSPX
def excB (K : Frag) (C : Addr) : Bool := match K.lookup C with
  | some o => (match o.cls, o.data, o.slots.toList with
    | .type n, .cls cd, [_, _, _, _, some (.builtin nid), _] => decide (n = "type") && (decide (nid = "ValueError.__new__") && (cd.hasDict && (!cd.hasDel && (match cd.mro with
      | .ref C' :: bm => decide (C' = C) && (refsVE bm && He.eqO (alongIn K "__init__" bm) (some (some (.builtin "ValueError.__init__"))))
      | _ => false))))
    | _, _, _ => false)
  | none => false
theorem exc_of {K : Frag} {C : Addr} (h : excB K C = true) : ∃ nm q N bs bm sn sub ab col dd k0 k1 k2 k3 k5, K.lookup C = some (excClassObj nm q C N bs bm true sn sub ab col dd k0 k1 k2 k3 k5 "ValueError.__new__") ∧ refsVE bm = true ∧
    alongIn K "__init__" bm = some (some (.builtin "ValueError.__init__")) := by
  unfold excB at h
  split at h
  · rename_i o ho
    obtain ⟨oc, od, dt, osl⟩ := o
    split at h
    · rename_i n cd a0 a1 a2 a3 nid a5 hc hd hs
      have hc : oc = .type n := hc
      have hd : dt = .cls cd := hd
      have hs : osl.toList = [a0, a1, a2, a3, some (.builtin nid), a5] := hs
      obtain ⟨h1, h⟩ := He.ba h
      obtain ⟨h2, h⟩ := He.ba h
      obtain ⟨h3, h⟩ := He.ba h
      obtain ⟨h4, h⟩ := He.ba h
      split at h
      · rename_i C' bm hm
        obtain ⟨h5, h⟩ := He.ba h
        obtain ⟨h6, h7⟩ := He.ba h
        obtain ⟨c1, c2, c3, c4, c5, c6, c7, c8, c9, c10, c11⟩ := cd
        dsimp only at h3 h4 hm
        have e1 := of_decide_eq_true h1
        have e2 := of_decide_eq_true h2
        have e5 := of_decide_eq_true h5
        have e4 : c11 = false := by simpa using h4
        have e6 : osl = #[a0, a1, a2, a3, some (.builtin nid), a5] := Array.toList_inj.mp hs
        subst hc hd e1 e2 e5 e4 hm e6 h3
        exact ⟨c1, c5, c4, c2, bm, c7, c8, c9, c10, od, a0, a1, a2, a3, a5, ho, h6, He.eqO_ok h7⟩
      · cases h
    · cases h
  · cases h
def cellB (K : Frag) (C cc : Addr) : Bool := match K.lookup cc with
  | some o => (match o.data with
    | .cell (some (.ref C')) => decide (C' = C)
    | _ => false)
  | none => false
theorem cell_of {K : Frag} {C cc : Addr} (h : cellB K C cc = true) : ∃ cl cld csl, K.lookup cc = some ⟨cl, cld, .cell (some (.ref C)), csl⟩ := by
  unfold cellB at h
  split at h
  · rename_i o ho
    obtain ⟨oc, od, dt, osl⟩ := o
    split at h
    · rename_i C' hd
      have hd : dt = .cell (some (.ref C')) := hd
      have e := of_decide_eq_true h
      subst hd e
      exact ⟨oc, od, osl, ho⟩
    · cases h
  · cases h
def fileB (P : Program) (K : Frag) (cda : Addr) : Bool := match K.lookup cda with
  | some o => (match o.data with
    | .fields vs => (match (vs[2]? : Option Value) with
      | some (Value.str file _) => (P.main.file : Str) == file
      | _ => false)
    | _ => false)
  | none => false
theorem file_of {P : Program} {K : Frag} {cda : Addr} (h : fileB P K cda = true) : ∃ ccl cdd vs ccs file tf, K.lookup cda = some ⟨ccl, cdd, .fields vs, ccs⟩ ∧ vs[2]? = some (.str file tf) ∧ ((P.main.file : Str) == file) = true := by
  unfold fileB at h
  split at h
  · rename_i o ho
    obtain ⟨oc, od, dt, osl⟩ := o
    split at h
    · rename_i vs hd
      have hd : dt = .fields vs := hd
      subst hd
      split at h
      · rename_i file tf hv
        exact ⟨oc, od, vs, osl, file, tf, ho, hv, h⟩
      · cases h
    · cases h
  · cases h
def initB (P : Program) (K : Frag) (C fI : Addr) (qual : Str) : Bool := Hx.funAt K fI fun d => (match d.closure, d.defaults, d.code with
  | [(n, cc)], .none, .ref cda => decide (n = "__class__") && (cellB K C cc && (codeIn K (.ref cda) qual && fileB P K cda))
  | _, _, _ => false)
theorem init_of {P : Program} {K : Frag} {C fI : Addr} {name qual : Str} {st : Stmt} {fs : List Str} (e : Hx.fnY K fI = Hx.yOf name qual st) (h : initB P K C fI qual = true) (it : InitTxt (L2.defArgs st) (L2.defBody st) (L2.defScope st) fs) :
    ∃ (oc : Value) (od : Option Addr) (osl : Array (Option Value)) (name qual : Str) (params : Arguments) (body : List Stmt) (scope : Scope) (kV doc pm : Value) (an : Option Addr) (ct : Value) (cda cc : Addr)
      (ccl : Value) (cdd : Option Addr) (vs : Array Value) (ccs : Array (Option Value)) (file : Str) (tf : Tok) (cl : Value) (cld : Option Addr) (csl : Array (Option Value)),
    K.lookup fI = some ⟨oc, od, .func (ksFn name qual params body scope .none kV doc pm an (.ref cda) ct cc), osl⟩ ∧ codeIn K (.ref cda) qual = true ∧
    K.lookup cda = some ⟨ccl, cdd, .fields vs, ccs⟩ ∧ vs[2]? = some (.str file tf) ∧ ((P.main.file : Str) == file) = true ∧
    K.lookup cc = some ⟨cl, cld, .cell (some (.ref C)), csl⟩ ∧ InitTxt params body scope fs := by
  obtain ⟨oc, od, d, osl, hk, h⟩ := Hx.funAt_ok h
  obtain ⟨h1, h2, h3, h4, h5, h6, h7⟩ := Hx.fnY_at hk e
  split at h
  · rename_i n cc cda hcl hdf hcd
    obtain ⟨k1, h⟩ := He.ba h
    obtain ⟨k2, h⟩ := He.ba h
    obtain ⟨k3, k4⟩ := He.ba h
    obtain ⟨cl, cld, csl, hcell⟩ := cell_of k2
    obtain ⟨ccl, cdd, vs, ccs, file, tf, hf1, hf2, hf3⟩ := file_of k4
    obtain ⟨n1, n2, n3, n4, n5, n6, n7, n8, n9, n10, n11, n12, n13, n14, n15⟩ := d
    dsimp only at h1 h2 h3 h4 h5 h6 h7 hcl hdf hcd
    have e1 := of_decide_eq_true k1
    subst h1 h2 h3 h4 h5 h6 h7 hcl hdf hcd e1
    exact ⟨oc, od, osl, n1, n2, _, _, _, n9, n10, n11, n12, n14, cda, cc, ccl, cdd, vs, ccs, file, tf, cl, cld, csl, hk, k3, hf1, hf2, hf3, hcell, it⟩
  · cases h
def supB (P : Program) (K : Frag) (C fI : Addr) (fs : List Str) (qual : Str) : Bool := excB K C && (He.eqO (findIn K (.ref C) "__setattr__") (some (some (.builtin "object.__setattr__"))) && ((fs.all fun f => He.eqO (findIn K (.ref C) f) (some none)) && (He.eqO (findIn K (.ref C) "__init__") (some (some (.ref fI))) &&
  (decide (typeIn K (.ref fI) = some (.type "function")) && (keepIn K (.ref C) && (decide (subIn K (.ref C) (.type "BaseException") = some true) && (decide (subIn K (.ref C) (.type "ValueError") = some true) && (decide (mroIn K C (.ref C) = some true) && (decide (typeIn K (.ref C) = some (.type "type")) &&
  (He.eqO (nsIn K cStatics "thirdparty.any") (some none) && initB P K C fI qual))))))))))
theorem sup_of {P : Program} {K : Frag} {mg : Str → Option Value} {x : Str} {C fI : Addr} {fs : List Str} {name qual : Str} {st : Stmt} (hg : mg x = some (.ref C)) (hs : mg "super" = none) (ht : (P.main.scope.names.lookup ("super" : Str)).isSome = false)
    (e : Hx.fnY K fI = Hx.yOf name qual st) (h : supB P K C fI fs qual = true) (it : InitTxt (L2.defArgs st) (L2.defBody st) (L2.defScope st) fs) : SupC P K mg x C fI fs := by
  obtain ⟨h1, h⟩ := He.ba h
  obtain ⟨h2, h⟩ := He.ba h
  obtain ⟨h3, h⟩ := He.ba h
  obtain ⟨h4, h⟩ := He.ba h
  obtain ⟨h5, h⟩ := He.ba h
  obtain ⟨h6, h⟩ := He.ba h
  obtain ⟨h7, h⟩ := He.ba h
  obtain ⟨h8, h⟩ := He.ba h
  obtain ⟨h9, h⟩ := He.ba h
  obtain ⟨h10, h⟩ := He.ba h
  obtain ⟨h11, h12⟩ := He.ba h
  exact ⟨hg, exc_of h1, He.eqO_ok h2, fun f hf => He.eqO_ok (List.all_eq_true.mp h3 f hf), He.eqO_ok h4, of_decide_eq_true h5, h6, of_decide_eq_true h7, of_decide_eq_true h8, of_decide_eq_true h9, of_decide_eq_true h10, He.eqO_ok h11, hs, ht, init_of e h12 it⟩
end SupX
namespace Hx
open PySem PySem.Spec PyProof.Rows L2
def obsH (fa : List (PySem.W.Frag → Bool)) (fn : List (PySem.W.Frag → FnY)) (as : List Addr) (g : Addr → Option Obj) : Bool × List FnY := ((fa.all fun c => c (He.frG g as)), fn.map fun f => f (He.frG g as))
def SaysH (fa : List (PySem.W.Frag → Bool)) (fn : List (PySem.W.Frag → FnY)) (vals : List FnY) (K : PySem.W.Frag) : Prop := (fa.all fun c => c K) = true ∧ (fn.map fun f => f K) = vals
def hookH (fa : List (PySem.W.Frag → Bool)) (fn : List (PySem.W.Frag → FnY)) (vals : List FnY) (as : List Addr) : PySem.W.Hook where
  α := Bool × List FnY
  obs := fun s => obsH fa fn as s.heap.get?
  val := fun _ => (true, vals)
  says := fun _ h => ∃ K : PySem.W.Frag, K.In h ∧ SaysH fa fn vals K
  of := fun _ s e => ⟨He.frG s.heap.get? as, He.frG_in, congrArg Prod.fst e, congrArg Prod.snd e⟩
  keeps := fun _ _ _ ⟨K, hK, c⟩ k => ⟨K, PySem.W.Frag.In.keeps hK k, c⟩
theorem obsH_eq {fa : List (PySem.W.Frag → Bool)} {fn : List (PySem.W.Frag → FnY)} {vals : List FnY} {as : List Addr} (s : PySem.W.SharedT) : obsH fa fn as (HandSHeadRun.getT s) = (hookH fa fn vals as).obs s.abs := by
  have e : HandSHeadRun.getT s = s.abs.heap.get? := funext (HandSHeadRun.getT_eq s)
  rw [e]; rfl
theorem SaysH.fact {fa : List (PySem.W.Frag → Bool)} {fn : List (PySem.W.Frag → FnY)} {vals : List FnY} {K : PySem.W.Frag} (c : SaysH fa fn vals K) (i : Nat) {f : PySem.W.Frag → Bool} (h : fa[i]? = some f) : f K = true := List.all_eq_true.mp c.1 f (List.mem_of_getElem? h)
theorem SaysH.fn {fa : List (PySem.W.Frag → Bool)} {fn : List (PySem.W.Frag → FnY)} {vals : List FnY} {K : PySem.W.Frag} (c : SaysH fa fn vals K) (i : Nat) {f : PySem.W.Frag → FnY} {v : FnY} (h : fn[i]? = some f) (h2 : vals[i]? = some v) : f K = v := by
  have e : (fn.map fun f => f K)[i]? = vals[i]? := by rw [c.2]
  rw [List.getElem?_map, h, h2] at e
  exact Option.some.inj e
theorem run_four {α : Type} {x : Option α} {f1 f3 : α → Bool} {β γ : Type} {g : α → β} {h : α → γ} {b : β} {c : γ} (e1 : x.map f1 = some true) (e2 : x.map g = some b) (e3 : x.map f3 = some true) (e4 : x.map h = some c) :
    x.map (fun s => (f1 s, g s, (f3 s, h s))) = some (true, b, (true, c)) := by
  cases x with
  | none => cases e1
  | some s =>
    have h1 : f1 s = true := Option.some.inj e1
    have h2 : g s = b := Option.some.inj e2
    have h3 : f3 s = true := Option.some.inj e3
    have h4 : h s = c := Option.some.inj e4
    show some (f1 s, g s, (f3 s, h s)) = _
    rw [h1, h2, h3, h4]
end Hx
set_option maxHeartbeats 0
namespace Cs
open PySem PySem.Spec PyProof.Rows L2
abbrev PW : Program := PySem.Challenge.pw_codestitch_k93_texts_refused
theorem it_BadCodes : SupX.InitTxt (defArgs s_BadCodes_init) (defBody s_BadCodes_init) (defScope s_BadCodes_init) ["part"] := ⟨by decide, by decide, fun _ _ _ _ _ _ _ _ _ us hl => match us, hl with | [_, _], _ => rfl, ⟨_, rfl, rfl⟩, by decide +kernel, by decide +kernel, rfl, rfl, rfl, rfl, rfl, by decide +kernel, by decide +kernel, ⟨_, _, _, _, _, _, _, _, rfl, by decide +kernel, ⟨_, _, _, _, _, rfl, rfl⟩⟩⟩
theorem it_BadLayout : SupX.InitTxt (defArgs s_BadLayout_init) (defBody s_BadLayout_init) (defScope s_BadLayout_init) ["part"] := ⟨by decide, by decide, fun _ _ _ _ _ _ _ _ _ us hl => match us, hl with | [_, _], _ => rfl, ⟨_, rfl, rfl⟩, by decide +kernel, by decide +kernel, rfl, rfl, rfl, rfl, rfl, by decide +kernel, by decide +kernel, ⟨_, _, _, _, _, _, _, _, rfl, by decide +kernel, ⟨_, _, _, _, _, rfl, rfl⟩⟩⟩
theorem it_UnlikeLengths : SupX.InitTxt (defArgs s_UnlikeLengths_init) (defBody s_UnlikeLengths_init) (defScope s_UnlikeLengths_init) ["one", "other"] := ⟨by decide, by decide, fun _ _ _ _ _ _ _ _ _ us hl => match us, hl with | [_, _, _], _ => rfl, ⟨_, rfl, rfl⟩, by decide +kernel, by decide +kernel, rfl, rfl, rfl, rfl, rfl, by decide +kernel, by decide +kernel, ⟨_, _, _, _, _, _, _, _, rfl, by decide +kernel, ⟨_, _, _, _, _, rfl, ⟨_, _, _, _, _, rfl, rfl⟩⟩⟩⟩
theorem it_BadRewrite : SupX.InitTxt (defArgs s_BadRewrite_init) (defBody s_BadRewrite_init) (defScope s_BadRewrite_init) ["part", "at"] := ⟨by decide, by decide, fun _ _ _ _ _ _ _ _ _ us hl => match us, hl with | [_, _, _], _ => rfl, ⟨_, rfl, rfl⟩, by decide +kernel, by decide +kernel, rfl, rfl, rfl, rfl, rfl, by decide +kernel, by decide +kernel, ⟨_, _, _, _, _, _, _, _, rfl, by decide +kernel, ⟨_, _, _, _, _, rfl, ⟨_, _, _, _, _, rfl, rfl⟩⟩⟩⟩
theorem it_BadText : SupX.InitTxt (defArgs s_BadText_init) (defBody s_BadText_init) (defScope s_BadText_init) ["line", "word"] := ⟨by decide, by decide, fun _ _ _ _ _ _ _ _ _ us hl => match us, hl with | [_, _, _], _ => rfl, ⟨_, rfl, rfl⟩, by decide +kernel, by decide +kernel, rfl, rfl, rfl, rfl, rfl, by decide +kernel, by decide +kernel, ⟨_, _, _, _, _, _, _, _, rfl, by decide +kernel, ⟨_, _, _, _, _, rfl, ⟨_, _, _, _, _, rfl, rfl⟩⟩⟩⟩
theorem it_NotWhole : SupX.InitTxt (defArgs s_NotWhole_init) (defBody s_NotWhole_init) (defScope s_NotWhole_init) ["place"] := ⟨by decide, by decide, fun _ _ _ _ _ _ _ _ _ us hl => match us, hl with | [_, _], _ => rfl, ⟨_, rfl, rfl⟩, by decide +kernel, by decide +kernel, rfl, rfl, rfl, rfl, rfl, by decide +kernel, by decide +kernel, ⟨_, _, _, _, _, _, _, _, rfl, by decide +kernel, ⟨_, _, _, _, _, rfl, rfl⟩⟩⟩
theorem it_OldNotWhole : SupX.InitTxt (defArgs s_OldNotWhole_init) (defBody s_OldNotWhole_init) (defScope s_OldNotWhole_init) ["place"] := ⟨by decide, by decide, fun _ _ _ _ _ _ _ _ _ us hl => match us, hl with | [_, _], _ => rfl, ⟨_, rfl, rfl⟩, by decide +kernel, by decide +kernel, rfl, rfl, rfl, rfl, rfl, by decide +kernel, by decide +kernel, ⟨_, _, _, _, _, _, _, _, rfl, by decide +kernel, ⟨_, _, _, _, _, rfl, rfl⟩⟩⟩
theorem it_NewNotWhole : SupX.InitTxt (defArgs s_NewNotWhole_init) (defBody s_NewNotWhole_init) (defScope s_NewNotWhole_init) ["place"] := ⟨by decide, by decide, fun _ _ _ _ _ _ _ _ _ us hl => match us, hl with | [_, _], _ => rfl, ⟨_, rfl, rfl⟩, by decide +kernel, by decide +kernel, rfl, rfl, rfl, rfl, rfl, by decide +kernel, by decide +kernel, ⟨_, _, _, _, _, _, _, _, rfl, by decide +kernel, ⟨_, _, _, _, _, rfl, rfl⟩⟩⟩
def hFa : List (PySem.W.Frag → Bool) := ([fun K => (He.Fa.free "len").ok K, fun K => (He.Fa.free "list").ok K, fun K => (He.Fa.free "sorted").ok K, fun K => (He.Fa.free "int").ok K, fun K => (He.Fa.free "isinstance").ok K, fun K => (He.Fa.free "bool").ok K, fun K => (He.Fa.free "str").ok K, fun K => (He.Fa.free "all").ok K, fun K => (He.Fa.free "set").ok K, fun K => (He.Fa.free "tuple").ok K, fun K => (He.Fa.free "iter").ok K, fun K => (He.Fa.free "range").ok K, fun K => (He.Fa.free "abs").ok K, fun K => (He.Fa.free "zip").ok K, fun K => (He.Fa.free "enumerate").ok K, fun K => (He.Fa.str "LETTERS" "abcdefghijklmnopqrstuvwxyz").ok K, fun K => (He.Fa.str "DIGITS" "0123456789").ok K, fun K => (He.Fa.int "MOST_DIGITS" 3).ok K, fun K => (He.Fa.int "MOST_NUMBER" 255).ok K, fun K => Hx.funB K (f_is_byte K) "is_byte" [] [], fun K => (He.Fa.glo "is_byte").ok K, fun K => Hx.funB K (f_is_name K) "is_name" [] [], fun K => (He.Fa.glo "is_name").ok K, fun K => Hx.funB K (f_Form___init__ K) "Form.__init__" [] [], fun K => Hx.funB K (f_check_forms K) "check_forms" [] []] : List (PySem.W.Frag → Bool)) ++
  ([fun K => (He.Fa.glo "check_forms").ok K, fun K => Hx.funB K (f_CodeSet___init__ K) "CodeSet.__init__" [] [], fun K => Hx.funB K (f_CodeSet___call__ K) "CodeSet.__call__" [] [], fun K => Hx.funB K (f_CodeSet_followers K) "CodeSet.followers" [] [], fun K => Hx.funB K (f_Layout___init__ K) "Layout.__init__" [(.int 1 : V), (.int 1 : V)] [], fun K => Hx.funB K (f_Layout_unit K) "Layout.unit" [] [], fun K => Hx.funB K (f_Layout_chunk K) "Layout.chunk" [] [], fun K => Hx.funB K (f_is_number K) "is_number" [] [], fun K => (He.Fa.glo "is_number").ok K, fun K => Hx.funB K (f_split_lines K) "split_lines" [] [], fun K => (He.Fa.glo "split_lines").ok K, fun K => Hx.funB K (f_stands K) "stands" [] [], fun K => (He.Fa.glo "stands").ok K, fun K => Hx.funB K (f_check_line K) "check_line" [] [], fun K => (He.Fa.glo "check_line").ok K, fun K => Hx.funB K (f_read_numbers K) "read_numbers" [] [("least", .int 0), ("ascending", .bl false)], fun K => (He.Fa.glo "read_numbers").ok K, fun K => Hx.funB K (f_instruction_at K) "instruction_at" [] [], fun K => (He.Fa.glo "instruction_at").ok K, fun K => Hx.funB K (f_explore K) "explore" [] [], fun K => (He.Fa.glo "explore").ok K, fun K => Hx.funB K (f_Program___init__ K) "Program.__init__" [] [], fun K => Hx.funB K (f_Program___contains__ K) "Program.__contains__" [] [], fun K => Hx.funB K (f_Program___iter__ K) "Program.__iter__" [] [], fun K => Hx.funB K (f_old_program_of K) "old_program_of" [] []] : List (PySem.W.Frag → Bool)) ++
  ([fun K => (He.Fa.glo "old_program_of").ok K, fun K => Hx.funB K (f_new_program_of K) "new_program_of" [] [], fun K => (He.Fa.glo "new_program_of").ok K, fun K => Hx.funB K (f_values_at K) "values_at" [] [], fun K => (He.Fa.glo "values_at").ok K, fun K => Hx.funB K (f_stop_fits K) "stop_fits" [] [], fun K => (He.Fa.glo "stop_fits").ok K, fun K => Hx.funB K (f_look_through K) "look_through" [] [], fun K => (He.Fa.glo "look_through").ok K, fun K => Hx.funB K (f_Rewrite___init__ K) "Rewrite.__init__" [] [("crossings", .non), ("stops", .non)], fun K => Hx.funB K (f_Reader___init__ K) "Reader.__init__" [] [], fun K => Hx.funB K (f_Reader_begins K) "Reader.begins" [] [], fun K => Hx.funB K (f_Reader_take K) "Reader.take" [] [], fun K => Hx.funB K (f_Reader_fixed K) "Reader.fixed" [] [], fun K => Hx.funB K (f_Reader_numbers K) "Reader.numbers" [] [], fun K => Hx.funB K (f_Reader_ascends K) "Reader.ascends" [] [], fun K => Hx.funB K (f_Reader_end K) "Reader.end" [] [], fun K => Hx.funB K (f_read_forms K) "read_forms" [] [], fun K => (He.Fa.glo "read_forms").ok K, fun K => Hx.funB K (f_read_answers K) "read_answers" [] [], fun K => (He.Fa.glo "read_answers").ok K, fun K => Hx.funB K (f_read_stretches K) "read_stretches" [] [], fun K => (He.Fa.glo "read_stretches").ok K, fun K => Hx.funB K (f_read_rewrite K) "read_rewrite" [] [], fun K => (He.Fa.glo "read_rewrite").ok K] : List (PySem.W.Frag → Bool)) ++
  ([fun K => Hx.funB K (f__law_bag K) "_law_bag" [] [], fun K => (He.Fa.glo "_law_bag").ok K, fun K => Hx.funB K (f__law_draw K) "_law_draw" [] [], fun K => (He.Fa.glo "_law_draw").ok K, fun K => Hx.funB K (f__law_same K) "_law_same" [] [], fun K => (He.Fa.glo "_law_same").ok K, fun K => Hx.funB K (f__law_lines K) "_law_lines" [] [], fun K => (He.Fa.glo "_law_lines").ok K, fun K => Hx.funB K (f__law_word K) "_law_word" [] [], fun K => (He.Fa.glo "_law_word").ok K, fun K => Hx.funB K (f__law_spoil K) "_law_spoil" [] [], fun K => (He.Fa.glo "_law_spoil").ok K, fun K => Hx.funB K (f__law_number K) "_law_number" [] [], fun K => (He.Fa.glo "_law_number").ok K, fun K => Hx.funB K (f__law_fits K) "_law_fits" [] [], fun K => (He.Fa.glo "_law_fits").ok K, fun K => Hx.funB K (f__law_fixed K) "_law_fixed" [] [], fun K => (He.Fa.glo "_law_fixed").ok K, fun K => Hx.funB K (f__law_numbers K) "_law_numbers" [] [], fun K => (He.Fa.glo "_law_numbers").ok K, fun K => Hx.funB K (f__law_numbered K) "_law_numbered" [] [], fun K => (He.Fa.glo "_law_numbered").ok K, fun K => Hx.funB K (f__law_wrong K) "_law_wrong" [] [], fun K => (He.Fa.glo "_law_wrong").ok K, fun K => Hx.funB K (f__law_next K) "_law_next" [] []] : List (PySem.W.Frag → Bool)) ++
  ([fun K => (He.Fa.glo "_law_next").ok K, fun K => Hx.funB K (f__law_due K) "_law_due" [] [], fun K => (He.Fa.glo "_law_due").ok K, fun K => Hx.funB K (f__law_asked K) "_law_asked" [] [], fun K => (He.Fa.glo "_law_asked").ok K, fun K => Hx.funB K (f_law K) "law" [] [], fun K => (He.Fa.glo "law").ok K, fun K => (He.Fa.glo "Form").ok K, fun K => (He.Fa.cls "Form").ok K, fun K => (He.Fa.mkr "Form").ok K, fun K => (He.Fa.noat "Form" "name").ok K, fun K => (He.Fa.noat "Form" "length").ok K, fun K => (He.Fa.noat "Form" "flow").ok K, fun K => (He.Fa.glo "CodeSet").ok K, fun K => (He.Fa.cls "CodeSet").ok K, fun K => (He.Fa.mkr "CodeSet").ok K, fun K => (He.Fa.noat "CodeSet" "stop").ok K, fun K => (He.Fa.noat "CodeSet" "order").ok K, fun K => (He.Fa.noat "CodeSet" "table").ok K, fun K => (He.Fa.meth "CodeSet" "followers").ok K, fun K => (He.Fa.glo "Layout").ok K, fun K => (He.Fa.cls "Layout").ok K, fun K => (He.Fa.mkr "Layout").ok K, fun K => (He.Fa.noat "Layout" "held_unit").ok K, fun K => (He.Fa.noat "Layout" "held_chunk").ok K] : List (PySem.W.Frag → Bool)) ++
  ([fun K => (He.Fa.glo "Program").ok K, fun K => (He.Fa.cls "Program").ok K, fun K => (He.Fa.mkr "Program").ok K, fun K => (He.Fa.noat "Program" "roots").ok K, fun K => (He.Fa.noat "Program" "laid").ok K, fun K => (He.Fa.noat "Program" "spots").ok K, fun K => (He.Fa.noat "Program" "leads").ok K, fun K => (He.Fa.glo "Rewrite").ok K, fun K => (He.Fa.cls "Rewrite").ok K, fun K => (He.Fa.mkr "Rewrite").ok K, fun K => (He.Fa.noat "Rewrite" "codes").ok K, fun K => (He.Fa.noat "Rewrite" "laid_out").ok K, fun K => (He.Fa.noat "Rewrite" "old").ok K, fun K => (He.Fa.noat "Rewrite" "new").ok K, fun K => (He.Fa.noat "Rewrite" "entries").ok K, fun K => (He.Fa.noat "Rewrite" "stood").ok K, fun K => (He.Fa.noat "Rewrite" "stretches").ok K, fun K => (He.Fa.noat "Rewrite" "old_program").ok K, fun K => (He.Fa.noat "Rewrite" "new_program").ok K, fun K => (He.Fa.noat "Rewrite" "answers").ok K, fun K => (He.Fa.noat "Rewrite" "told_ones").ok K, fun K => (He.Fa.noat "Rewrite" "crossed").ok K, fun K => (He.Fa.noat "Rewrite" "open_ones").ok K, fun K => (He.Fa.noat "Rewrite" "many_images").ok K, fun K => (He.Fa.glo "Reader").ok K] : List (PySem.W.Frag → Bool)) ++
  ([fun K => (He.Fa.cls "Reader").ok K, fun K => (He.Fa.mkr "Reader").ok K, fun K => (He.Fa.noat "Reader" "lines").ok K, fun K => (He.Fa.noat "Reader" "at").ok K, fun K => (He.Fa.meth "Reader" "begins").ok K, fun K => (He.Fa.meth "Reader" "take").ok K, fun K => (He.Fa.meth "Reader" "fixed").ok K, fun K => (He.Fa.meth "Reader" "numbers").ok K, fun K => (He.Fa.meth "Reader" "ascends").ok K, fun K => (He.Fa.meth "Reader" "end").ok K, fun K => Hx.propB K (C_Layout K) "unit" (He.ma K (C_Layout K) "unit"), fun K => Hx.propB K (C_Layout K) "chunk" (He.ma K (C_Layout K) "chunk"), fun K => Hx.callB K (C_CodeSet K) (f_CodeSet___call__ K), fun K => (He.Fa.glo "BadCodes").ok K, fun K => (He.Fa.free "super").ok K, fun K => SupX.supB PW K (C_BadCodes K) (He.ma K (C_BadCodes K) "__init__") ["part"] "BadCodes.__init__", fun K => (He.Fa.glo "BadLayout").ok K, fun K => SupX.supB PW K (C_BadLayout K) (He.ma K (C_BadLayout K) "__init__") ["part"] "BadLayout.__init__", fun K => (He.Fa.glo "UnlikeLengths").ok K, fun K => SupX.supB PW K (C_UnlikeLengths K) (He.ma K (C_UnlikeLengths K) "__init__") ["one", "other"] "UnlikeLengths.__init__", fun K => (He.Fa.glo "BadRewrite").ok K, fun K => SupX.supB PW K (C_BadRewrite K) (He.ma K (C_BadRewrite K) "__init__") ["part", "at"] "BadRewrite.__init__", fun K => (He.Fa.glo "BadText").ok K, fun K => SupX.supB PW K (C_BadText K) (He.ma K (C_BadText K) "__init__") ["line", "word"] "BadText.__init__", fun K => (He.Fa.glo "NotWhole").ok K] : List (PySem.W.Frag → Bool)) ++
  ([fun K => SupX.supB PW K (C_NotWhole K) (He.ma K (C_NotWhole K) "__init__") ["place"] "NotWhole.__init__", fun K => (He.Fa.glo "OldNotWhole").ok K, fun K => SupX.supB PW K (C_OldNotWhole K) (He.ma K (C_OldNotWhole K) "__init__") ["place"] "OldNotWhole.__init__", fun K => (He.Fa.glo "NewNotWhole").ok K, fun K => SupX.supB PW K (C_NewNotWhole K) (He.ma K (C_NewNotWhole K) "__init__") ["place"] "NewNotWhole.__init__", fun K => Hx.ktupB K (C_Form K) "FLOWS" [.str "next", .str "jump", .str "test", .str "end"], fun K => Hx.ktupB K (C_Layout K) "UNITS" [.int 1, .int 2, .int 4, .int 8], fun K => Hx.ktupB K (C_Layout K) "CHUNKS" [.int 1, .int 2, .int 4, .int 8, .int 16], fun K => Hx.kintB K (C_CodeSet K) "MOST_FORMS" 16, fun K => (He.Fa.meth "Program" "__contains__").ok K, fun K => (He.Fa.meth "Program" "__iter__").ok K, fun K => xfB K (C_NotWhole K), fun K => He.eqO (PySem.W.findIn K (.ref (C_NotWhole K)) "place") (some none), fun K => Hx.exmB K (C_NotWhole K) (C_NotWhole K) true, fun K => (He.Fa.glo "CodeError").ok K, fun K => (He.Fa.glo "BadInput").ok K, fun K => (He.Fa.glo "NotRight").ok K, fun K => (([C_BadCodes K, C_BadLayout K, C_UnlikeLengths K, C_BadRewrite K, C_OldNotWhole K, C_NewNotWhole K] : List Addr).all fun C => Hx.excCB K C && (Hx.exmB K C (He.ga K "CodeError") true && Hx.kitB1 K C (C_BadText K) false)), fun K => Hx.excCB K (C_BadText K), fun K => Hx.exmB K (C_BadText K) (He.ga K "CodeError") true, fun K => Hx.kitB1 K (C_BadText K) (C_BadText K) true, fun K => Hx.kitB1 K (C_BadText K) (He.ga K "BadInput") true, fun K => Hx.kitB1 K (C_BadText K) (He.ga K "NotRight") false, fun K => xfB K (C_BadText K), fun K => He.eqO (PySem.W.findIn K (.ref (C_BadText K)) "line") (some none)] : List (PySem.W.Frag → Bool)) ++
  ([fun K => He.eqO (PySem.W.findIn K (.ref (C_BadText K)) "word") (some none)] : List (PySem.W.Frag → Bool))
def hFn : List (PySem.W.Frag → Hx.FnY) := ([fun K => Hx.fnY K (f_is_byte K), fun K => Hx.fnY K (f_is_name K), fun K => Hx.fnY K (f_Form___init__ K), fun K => Hx.fnY K (f_check_forms K), fun K => Hx.fnY K (f_CodeSet___init__ K), fun K => Hx.fnY K (f_CodeSet___call__ K), fun K => Hx.fnY K (f_CodeSet_followers K), fun K => Hx.fnY K (f_Layout___init__ K), fun K => Hx.fnY K (f_Layout_unit K), fun K => Hx.fnY K (f_Layout_chunk K), fun K => Hx.fnY K (f_is_number K), fun K => Hx.fnY K (f_split_lines K), fun K => Hx.fnY K (f_stands K), fun K => Hx.fnY K (f_check_line K), fun K => Hx.fnY K (f_read_numbers K), fun K => Hx.fnY K (f_instruction_at K), fun K => Hx.fnY K (f_explore K), fun K => Hx.fnY K (f_Program___init__ K), fun K => Hx.fnY K (f_Program___contains__ K), fun K => Hx.fnY K (f_Program___iter__ K), fun K => Hx.fnY K (f_old_program_of K), fun K => Hx.fnY K (f_new_program_of K), fun K => Hx.fnY K (f_values_at K), fun K => Hx.fnY K (f_stop_fits K), fun K => Hx.fnY K (f_look_through K)] : List (PySem.W.Frag → Hx.FnY)) ++
  ([fun K => Hx.fnY K (f_Rewrite___init__ K), fun K => Hx.fnY K (f_Reader___init__ K), fun K => Hx.fnY K (f_Reader_begins K), fun K => Hx.fnY K (f_Reader_take K), fun K => Hx.fnY K (f_Reader_fixed K), fun K => Hx.fnY K (f_Reader_numbers K), fun K => Hx.fnY K (f_Reader_ascends K), fun K => Hx.fnY K (f_Reader_end K), fun K => Hx.fnY K (f_read_forms K), fun K => Hx.fnY K (f_read_answers K), fun K => Hx.fnY K (f_read_stretches K), fun K => Hx.fnY K (f_read_rewrite K), fun K => Hx.fnY K (f__law_bag K), fun K => Hx.fnY K (f__law_draw K), fun K => Hx.fnY K (f__law_same K), fun K => Hx.fnY K (f__law_lines K), fun K => Hx.fnY K (f__law_word K), fun K => Hx.fnY K (f__law_spoil K), fun K => Hx.fnY K (f__law_number K), fun K => Hx.fnY K (f__law_fits K), fun K => Hx.fnY K (f__law_fixed K), fun K => Hx.fnY K (f__law_numbers K), fun K => Hx.fnY K (f__law_numbered K), fun K => Hx.fnY K (f__law_wrong K), fun K => Hx.fnY K (f__law_next K)] : List (PySem.W.Frag → Hx.FnY)) ++
  ([fun K => Hx.fnY K (f__law_due K), fun K => Hx.fnY K (f__law_asked K), fun K => Hx.fnY K (f_law K), fun K => Hx.fnY K (He.ma K (C_BadCodes K) "__init__"), fun K => Hx.fnY K (He.ma K (C_BadLayout K) "__init__"), fun K => Hx.fnY K (He.ma K (C_UnlikeLengths K) "__init__"), fun K => Hx.fnY K (He.ma K (C_BadRewrite K) "__init__"), fun K => Hx.fnY K (He.ma K (C_BadText K) "__init__"), fun K => Hx.fnY K (He.ma K (C_NotWhole K) "__init__"), fun K => Hx.fnY K (He.ma K (C_OldNotWhole K) "__init__"), fun K => Hx.fnY K (He.ma K (C_NewNotWhole K) "__init__")] : List (PySem.W.Frag → Hx.FnY))
def hVals : List Hx.FnY := ([Hx.yOf "is_byte" "is_byte" s_is_byte, Hx.yOf "is_name" "is_name" s_is_name, Hx.yOf "__init__" "Form.__init__" s_Form___init__, Hx.yOf "check_forms" "check_forms" s_check_forms, Hx.yOf "__init__" "CodeSet.__init__" s_CodeSet___init__, Hx.yOf "__call__" "CodeSet.__call__" s_CodeSet___call__, Hx.yOf "followers" "CodeSet.followers" s_CodeSet_followers, Hx.yOf "__init__" "Layout.__init__" s_Layout___init__, Hx.yOf "unit" "Layout.unit" s_Layout_unit, Hx.yOf "chunk" "Layout.chunk" s_Layout_chunk, Hx.yOf "is_number" "is_number" s_is_number, Hx.yOf "split_lines" "split_lines" s_split_lines, Hx.yOf "stands" "stands" s_stands, Hx.yOf "check_line" "check_line" s_check_line, Hx.yOf "read_numbers" "read_numbers" s_read_numbers, Hx.yOf "instruction_at" "instruction_at" s_instruction_at, Hx.yOf "explore" "explore" s_explore, Hx.yOf "__init__" "Program.__init__" s_Program___init__, Hx.yOf "__contains__" "Program.__contains__" s_Program___contains__, Hx.yOf "__iter__" "Program.__iter__" s_Program___iter__, Hx.yOf "old_program_of" "old_program_of" s_old_program_of, Hx.yOf "new_program_of" "new_program_of" s_new_program_of, Hx.yOf "values_at" "values_at" s_values_at, Hx.yOf "stop_fits" "stop_fits" s_stop_fits, Hx.yOf "look_through" "look_through" s_look_through] : List Hx.FnY) ++
  ([Hx.yOf "__init__" "Rewrite.__init__" s_Rewrite___init__, Hx.yOf "__init__" "Reader.__init__" s_Reader___init__, Hx.yOf "begins" "Reader.begins" s_Reader_begins, Hx.yOf "take" "Reader.take" s_Reader_take, Hx.yOf "fixed" "Reader.fixed" s_Reader_fixed, Hx.yOf "numbers" "Reader.numbers" s_Reader_numbers, Hx.yOf "ascends" "Reader.ascends" s_Reader_ascends, Hx.yOf "end" "Reader.end" s_Reader_end, Hx.yOf "read_forms" "read_forms" s_read_forms, Hx.yOf "read_answers" "read_answers" s_read_answers, Hx.yOf "read_stretches" "read_stretches" s_read_stretches, Hx.yOf "read_rewrite" "read_rewrite" s_read_rewrite, Hx.yOf "_law_bag" "_law_bag" s__law_bag, Hx.yOf "_law_draw" "_law_draw" s__law_draw, Hx.yOf "_law_same" "_law_same" s__law_same, Hx.yOf "_law_lines" "_law_lines" s__law_lines, Hx.yOf "_law_word" "_law_word" s__law_word, Hx.yOf "_law_spoil" "_law_spoil" s__law_spoil, Hx.yOf "_law_number" "_law_number" s__law_number, Hx.yOf "_law_fits" "_law_fits" s__law_fits, Hx.yOf "_law_fixed" "_law_fixed" s__law_fixed, Hx.yOf "_law_numbers" "_law_numbers" s__law_numbers, Hx.yOf "_law_numbered" "_law_numbered" s__law_numbered, Hx.yOf "_law_wrong" "_law_wrong" s__law_wrong, Hx.yOf "_law_next" "_law_next" s__law_next] : List Hx.FnY) ++
  ([Hx.yOf "_law_due" "_law_due" s__law_due, Hx.yOf "_law_asked" "_law_asked" s__law_asked, Hx.yOf "law" "law" s_law, Hx.yOf "__init__" "BadCodes.__init__" s_BadCodes_init, Hx.yOf "__init__" "BadLayout.__init__" s_BadLayout_init, Hx.yOf "__init__" "UnlikeLengths.__init__" s_UnlikeLengths_init, Hx.yOf "__init__" "BadRewrite.__init__" s_BadRewrite_init, Hx.yOf "__init__" "BadText.__init__" s_BadText_init, Hx.yOf "__init__" "NotWhole.__init__" s_NotWhole_init, Hx.yOf "__init__" "OldNotWhole.__init__" s_OldNotWhole_init, Hx.yOf "__init__" "NewNotWhole.__init__" s_NewNotWhole_init] : List Hx.FnY)
def hAs : List Addr := ([3, 2, 30, 31, 43, 44, 55, 56, 62, 73, 74, 76, 77, 83, 94, 95, 97, 98, 146, 157, 158, 160, 161, 167, 178, 179, 181, 182, 188, 199, 200, 202, 203, 209, 220, 221, 223, 224, 230, 241, 242, 244, 245, 251, 262, 263, 265, 266, 274, 275, 279, 280, 288, 294, 295, 311, 312, 320, 321, 332, 333, 389, 390, 396, 397, 399, 400, 412, 413, 414, 420, 421, 427, 428, 438, 444, 445, 455, 492, 493, 501, 502, 506, 507, 513, 514, 520, 521, 522, 528, 529, 535, 536, 542, 543, 554, 555, 561, 562, 582] : List Addr) ++
  ([583, 613, 614, 624, 625, 631, 632, 638, 639, 645, 646, 652, 653, 663, 667, 668, 759, 760, 777, 778, 784, 785, 791, 792, 798, 799, 805, 806, 812, 813, 819, 820, 822, 823, 833, 834, 840, 841, 847, 848, 854, 855, 861, 862, 868, 869, 875, 876, 880, 881, 887, 888, 894, 895, 899, 900, 906, 907, 913, 914, 920, 921, 927, 928, 934, 935, 939, 940, 946, 947, 953, 954, 958, 959] : List Addr)
theorem txt_of {K : PySem.W.Frag} {h : Heap} {mg : Str → Option Value} (X : K.In h) (G : h.Ns mainGlobals mg) (c : Hx.SaysH hFa hFn hVals K) : Txt PW K mg where
  b_len := He.free_ok X G (c.fact (f := fun K => (He.Fa.free "len").ok K) 0 rfl)
  b_list := He.free_ok X G (c.fact (f := fun K => (He.Fa.free "list").ok K) 1 rfl)
  b_sorted := He.free_ok X G (c.fact (f := fun K => (He.Fa.free "sorted").ok K) 2 rfl)
  b_int := He.free_ok X G (c.fact (f := fun K => (He.Fa.free "int").ok K) 3 rfl)
  b_isinstance := He.free_ok X G (c.fact (f := fun K => (He.Fa.free "isinstance").ok K) 4 rfl)
  b_bool := He.free_ok X G (c.fact (f := fun K => (He.Fa.free "bool").ok K) 5 rfl)
  b_str := He.free_ok X G (c.fact (f := fun K => (He.Fa.free "str").ok K) 6 rfl)
  b_all := He.free_ok X G (c.fact (f := fun K => (He.Fa.free "all").ok K) 7 rfl)
  b_set := He.free_ok X G (c.fact (f := fun K => (He.Fa.free "set").ok K) 8 rfl)
  b_tuple := He.free_ok X G (c.fact (f := fun K => (He.Fa.free "tuple").ok K) 9 rfl)
  b_iter := He.free_ok X G (c.fact (f := fun K => (He.Fa.free "iter").ok K) 10 rfl)
  b_range := He.free_ok X G (c.fact (f := fun K => (He.Fa.free "range").ok K) 11 rfl)
  b_abs := He.free_ok X G (c.fact (f := fun K => (He.Fa.free "abs").ok K) 12 rfl)
  b_zip := He.free_ok X G (c.fact (f := fun K => (He.Fa.free "zip").ok K) 13 rfl)
  b_enumerate := He.free_ok X G (c.fact (f := fun K => (He.Fa.free "enumerate").ok K) 14 rfl)
  c_LETTERS := He.str_ok X G (c.fact (f := fun K => (He.Fa.str "LETTERS" "abcdefghijklmnopqrstuvwxyz").ok K) 15 rfl)
  c_DIGITS := He.str_ok X G (c.fact (f := fun K => (He.Fa.str "DIGITS" "0123456789").ok K) 16 rfl)
  c_MOST_DIGITS := He.int_ok X G (c.fact (f := fun K => (He.Fa.int "MOST_DIGITS" 3).ok K) 17 rfl)
  c_MOST_NUMBER := He.int_ok X G (c.fact (f := fun K => (He.Fa.int "MOST_NUMBER" 255).ok K) 18 rfl)
  F_is_byte := Hx.funD_of (c.fn (f := fun K => Hx.fnY K (f_is_byte K)) (v := Hx.yOf "is_byte" "is_byte" s_is_byte) 0 rfl rfl) (c.fact (f := fun K => Hx.funB K (f_is_byte K) "is_byte" [] []) 19 rfl)
  g_is_byte := He.glo_ok X G (c.fact (f := fun K => (He.Fa.glo "is_byte").ok K) 20 rfl)
  k_is_byte := (He.ba (c.fact (f := fun K => Hx.funB K (f_is_byte K) "is_byte" [] []) 19 rfl)).1
  F_is_name := Hx.funD_of (c.fn (f := fun K => Hx.fnY K (f_is_name K)) (v := Hx.yOf "is_name" "is_name" s_is_name) 1 rfl rfl) (c.fact (f := fun K => Hx.funB K (f_is_name K) "is_name" [] []) 21 rfl)
  g_is_name := He.glo_ok X G (c.fact (f := fun K => (He.Fa.glo "is_name").ok K) 22 rfl)
  k_is_name := (He.ba (c.fact (f := fun K => Hx.funB K (f_is_name K) "is_name" [] []) 21 rfl)).1
  F_Form___init__ := Hx.funD_of (c.fn (f := fun K => Hx.fnY K (f_Form___init__ K)) (v := Hx.yOf "__init__" "Form.__init__" s_Form___init__) 2 rfl rfl) (c.fact (f := fun K => Hx.funB K (f_Form___init__ K) "Form.__init__" [] []) 23 rfl)
  F_check_forms := Hx.funD_of (c.fn (f := fun K => Hx.fnY K (f_check_forms K)) (v := Hx.yOf "check_forms" "check_forms" s_check_forms) 3 rfl rfl) (c.fact (f := fun K => Hx.funB K (f_check_forms K) "check_forms" [] []) 24 rfl)
  g_check_forms := He.glo_ok X G (c.fact (f := fun K => (He.Fa.glo "check_forms").ok K) 25 rfl)
  k_check_forms := (He.ba (c.fact (f := fun K => Hx.funB K (f_check_forms K) "check_forms" [] []) 24 rfl)).1
  F_CodeSet___init__ := Hx.funD_of (c.fn (f := fun K => Hx.fnY K (f_CodeSet___init__ K)) (v := Hx.yOf "__init__" "CodeSet.__init__" s_CodeSet___init__) 4 rfl rfl) (c.fact (f := fun K => Hx.funB K (f_CodeSet___init__ K) "CodeSet.__init__" [] []) 26 rfl)
  F_CodeSet___call__ := Hx.funD_of (c.fn (f := fun K => Hx.fnY K (f_CodeSet___call__ K)) (v := Hx.yOf "__call__" "CodeSet.__call__" s_CodeSet___call__) 5 rfl rfl) (c.fact (f := fun K => Hx.funB K (f_CodeSet___call__ K) "CodeSet.__call__" [] []) 27 rfl)
  F_CodeSet_followers := Hx.funD_of (c.fn (f := fun K => Hx.fnY K (f_CodeSet_followers K)) (v := Hx.yOf "followers" "CodeSet.followers" s_CodeSet_followers) 6 rfl rfl) (c.fact (f := fun K => Hx.funB K (f_CodeSet_followers K) "CodeSet.followers" [] []) 28 rfl)
  F_Layout___init__ := Hx.funD_of (c.fn (f := fun K => Hx.fnY K (f_Layout___init__ K)) (v := Hx.yOf "__init__" "Layout.__init__" s_Layout___init__) 7 rfl rfl) (c.fact (f := fun K => Hx.funB K (f_Layout___init__ K) "Layout.__init__" [(.int 1 : V), (.int 1 : V)] []) 29 rfl)
  F_Layout_unit := Hx.funD_of (c.fn (f := fun K => Hx.fnY K (f_Layout_unit K)) (v := Hx.yOf "unit" "Layout.unit" s_Layout_unit) 8 rfl rfl) (c.fact (f := fun K => Hx.funB K (f_Layout_unit K) "Layout.unit" [] []) 30 rfl)
  F_Layout_chunk := Hx.funD_of (c.fn (f := fun K => Hx.fnY K (f_Layout_chunk K)) (v := Hx.yOf "chunk" "Layout.chunk" s_Layout_chunk) 9 rfl rfl) (c.fact (f := fun K => Hx.funB K (f_Layout_chunk K) "Layout.chunk" [] []) 31 rfl)
  F_is_number := Hx.funD_of (c.fn (f := fun K => Hx.fnY K (f_is_number K)) (v := Hx.yOf "is_number" "is_number" s_is_number) 10 rfl rfl) (c.fact (f := fun K => Hx.funB K (f_is_number K) "is_number" [] []) 32 rfl)
  g_is_number := He.glo_ok X G (c.fact (f := fun K => (He.Fa.glo "is_number").ok K) 33 rfl)
  k_is_number := (He.ba (c.fact (f := fun K => Hx.funB K (f_is_number K) "is_number" [] []) 32 rfl)).1
  F_split_lines := Hx.funD_of (c.fn (f := fun K => Hx.fnY K (f_split_lines K)) (v := Hx.yOf "split_lines" "split_lines" s_split_lines) 11 rfl rfl) (c.fact (f := fun K => Hx.funB K (f_split_lines K) "split_lines" [] []) 34 rfl)
  g_split_lines := He.glo_ok X G (c.fact (f := fun K => (He.Fa.glo "split_lines").ok K) 35 rfl)
  k_split_lines := (He.ba (c.fact (f := fun K => Hx.funB K (f_split_lines K) "split_lines" [] []) 34 rfl)).1
  F_stands := Hx.funD_of (c.fn (f := fun K => Hx.fnY K (f_stands K)) (v := Hx.yOf "stands" "stands" s_stands) 12 rfl rfl) (c.fact (f := fun K => Hx.funB K (f_stands K) "stands" [] []) 36 rfl)
  g_stands := He.glo_ok X G (c.fact (f := fun K => (He.Fa.glo "stands").ok K) 37 rfl)
  k_stands := (He.ba (c.fact (f := fun K => Hx.funB K (f_stands K) "stands" [] []) 36 rfl)).1
  F_check_line := Hx.funD_of (c.fn (f := fun K => Hx.fnY K (f_check_line K)) (v := Hx.yOf "check_line" "check_line" s_check_line) 13 rfl rfl) (c.fact (f := fun K => Hx.funB K (f_check_line K) "check_line" [] []) 38 rfl)
  g_check_line := He.glo_ok X G (c.fact (f := fun K => (He.Fa.glo "check_line").ok K) 39 rfl)
  k_check_line := (He.ba (c.fact (f := fun K => Hx.funB K (f_check_line K) "check_line" [] []) 38 rfl)).1
  F_read_numbers := Hx.funD_of (c.fn (f := fun K => Hx.fnY K (f_read_numbers K)) (v := Hx.yOf "read_numbers" "read_numbers" s_read_numbers) 14 rfl rfl) (c.fact (f := fun K => Hx.funB K (f_read_numbers K) "read_numbers" [] [("least", .int 0), ("ascending", .bl false)]) 40 rfl)
  g_read_numbers := He.glo_ok X G (c.fact (f := fun K => (He.Fa.glo "read_numbers").ok K) 41 rfl)
  k_read_numbers := (He.ba (c.fact (f := fun K => Hx.funB K (f_read_numbers K) "read_numbers" [] [("least", .int 0), ("ascending", .bl false)]) 40 rfl)).1
  F_instruction_at := Hx.funD_of (c.fn (f := fun K => Hx.fnY K (f_instruction_at K)) (v := Hx.yOf "instruction_at" "instruction_at" s_instruction_at) 15 rfl rfl) (c.fact (f := fun K => Hx.funB K (f_instruction_at K) "instruction_at" [] []) 42 rfl)
  g_instruction_at := He.glo_ok X G (c.fact (f := fun K => (He.Fa.glo "instruction_at").ok K) 43 rfl)
  k_instruction_at := (He.ba (c.fact (f := fun K => Hx.funB K (f_instruction_at K) "instruction_at" [] []) 42 rfl)).1
  F_explore := Hx.funD_of (c.fn (f := fun K => Hx.fnY K (f_explore K)) (v := Hx.yOf "explore" "explore" s_explore) 16 rfl rfl) (c.fact (f := fun K => Hx.funB K (f_explore K) "explore" [] []) 44 rfl)
  g_explore := He.glo_ok X G (c.fact (f := fun K => (He.Fa.glo "explore").ok K) 45 rfl)
  k_explore := (He.ba (c.fact (f := fun K => Hx.funB K (f_explore K) "explore" [] []) 44 rfl)).1
  F_Program___init__ := Hx.funD_of (c.fn (f := fun K => Hx.fnY K (f_Program___init__ K)) (v := Hx.yOf "__init__" "Program.__init__" s_Program___init__) 17 rfl rfl) (c.fact (f := fun K => Hx.funB K (f_Program___init__ K) "Program.__init__" [] []) 46 rfl)
  F_Program___contains__ := Hx.funD_of (c.fn (f := fun K => Hx.fnY K (f_Program___contains__ K)) (v := Hx.yOf "__contains__" "Program.__contains__" s_Program___contains__) 18 rfl rfl) (c.fact (f := fun K => Hx.funB K (f_Program___contains__ K) "Program.__contains__" [] []) 47 rfl)
  F_Program___iter__ := Hx.funD_of (c.fn (f := fun K => Hx.fnY K (f_Program___iter__ K)) (v := Hx.yOf "__iter__" "Program.__iter__" s_Program___iter__) 19 rfl rfl) (c.fact (f := fun K => Hx.funB K (f_Program___iter__ K) "Program.__iter__" [] []) 48 rfl)
  F_old_program_of := Hx.funD_of (c.fn (f := fun K => Hx.fnY K (f_old_program_of K)) (v := Hx.yOf "old_program_of" "old_program_of" s_old_program_of) 20 rfl rfl) (c.fact (f := fun K => Hx.funB K (f_old_program_of K) "old_program_of" [] []) 49 rfl)
  g_old_program_of := He.glo_ok X G (c.fact (f := fun K => (He.Fa.glo "old_program_of").ok K) 50 rfl)
  k_old_program_of := (He.ba (c.fact (f := fun K => Hx.funB K (f_old_program_of K) "old_program_of" [] []) 49 rfl)).1
  F_new_program_of := Hx.funD_of (c.fn (f := fun K => Hx.fnY K (f_new_program_of K)) (v := Hx.yOf "new_program_of" "new_program_of" s_new_program_of) 21 rfl rfl) (c.fact (f := fun K => Hx.funB K (f_new_program_of K) "new_program_of" [] []) 51 rfl)
  g_new_program_of := He.glo_ok X G (c.fact (f := fun K => (He.Fa.glo "new_program_of").ok K) 52 rfl)
  k_new_program_of := (He.ba (c.fact (f := fun K => Hx.funB K (f_new_program_of K) "new_program_of" [] []) 51 rfl)).1
  F_values_at := Hx.funD_of (c.fn (f := fun K => Hx.fnY K (f_values_at K)) (v := Hx.yOf "values_at" "values_at" s_values_at) 22 rfl rfl) (c.fact (f := fun K => Hx.funB K (f_values_at K) "values_at" [] []) 53 rfl)
  g_values_at := He.glo_ok X G (c.fact (f := fun K => (He.Fa.glo "values_at").ok K) 54 rfl)
  k_values_at := (He.ba (c.fact (f := fun K => Hx.funB K (f_values_at K) "values_at" [] []) 53 rfl)).1
  F_stop_fits := Hx.funD_of (c.fn (f := fun K => Hx.fnY K (f_stop_fits K)) (v := Hx.yOf "stop_fits" "stop_fits" s_stop_fits) 23 rfl rfl) (c.fact (f := fun K => Hx.funB K (f_stop_fits K) "stop_fits" [] []) 55 rfl)
  g_stop_fits := He.glo_ok X G (c.fact (f := fun K => (He.Fa.glo "stop_fits").ok K) 56 rfl)
  k_stop_fits := (He.ba (c.fact (f := fun K => Hx.funB K (f_stop_fits K) "stop_fits" [] []) 55 rfl)).1
  F_look_through := Hx.funD_of (c.fn (f := fun K => Hx.fnY K (f_look_through K)) (v := Hx.yOf "look_through" "look_through" s_look_through) 24 rfl rfl) (c.fact (f := fun K => Hx.funB K (f_look_through K) "look_through" [] []) 57 rfl)
  g_look_through := He.glo_ok X G (c.fact (f := fun K => (He.Fa.glo "look_through").ok K) 58 rfl)
  k_look_through := (He.ba (c.fact (f := fun K => Hx.funB K (f_look_through K) "look_through" [] []) 57 rfl)).1
  F_Rewrite___init__ := Hx.funD_of (c.fn (f := fun K => Hx.fnY K (f_Rewrite___init__ K)) (v := Hx.yOf "__init__" "Rewrite.__init__" s_Rewrite___init__) 25 rfl rfl) (c.fact (f := fun K => Hx.funB K (f_Rewrite___init__ K) "Rewrite.__init__" [] [("crossings", .non), ("stops", .non)]) 59 rfl)
  F_Reader___init__ := Hx.funD_of (c.fn (f := fun K => Hx.fnY K (f_Reader___init__ K)) (v := Hx.yOf "__init__" "Reader.__init__" s_Reader___init__) 26 rfl rfl) (c.fact (f := fun K => Hx.funB K (f_Reader___init__ K) "Reader.__init__" [] []) 60 rfl)
  F_Reader_begins := Hx.funD_of (c.fn (f := fun K => Hx.fnY K (f_Reader_begins K)) (v := Hx.yOf "begins" "Reader.begins" s_Reader_begins) 27 rfl rfl) (c.fact (f := fun K => Hx.funB K (f_Reader_begins K) "Reader.begins" [] []) 61 rfl)
  F_Reader_take := Hx.funD_of (c.fn (f := fun K => Hx.fnY K (f_Reader_take K)) (v := Hx.yOf "take" "Reader.take" s_Reader_take) 28 rfl rfl) (c.fact (f := fun K => Hx.funB K (f_Reader_take K) "Reader.take" [] []) 62 rfl)
  F_Reader_fixed := Hx.funD_of (c.fn (f := fun K => Hx.fnY K (f_Reader_fixed K)) (v := Hx.yOf "fixed" "Reader.fixed" s_Reader_fixed) 29 rfl rfl) (c.fact (f := fun K => Hx.funB K (f_Reader_fixed K) "Reader.fixed" [] []) 63 rfl)
  F_Reader_numbers := Hx.funD_of (c.fn (f := fun K => Hx.fnY K (f_Reader_numbers K)) (v := Hx.yOf "numbers" "Reader.numbers" s_Reader_numbers) 30 rfl rfl) (c.fact (f := fun K => Hx.funB K (f_Reader_numbers K) "Reader.numbers" [] []) 64 rfl)
  F_Reader_ascends := Hx.funD_of (c.fn (f := fun K => Hx.fnY K (f_Reader_ascends K)) (v := Hx.yOf "ascends" "Reader.ascends" s_Reader_ascends) 31 rfl rfl) (c.fact (f := fun K => Hx.funB K (f_Reader_ascends K) "Reader.ascends" [] []) 65 rfl)
  F_Reader_end := Hx.funD_of (c.fn (f := fun K => Hx.fnY K (f_Reader_end K)) (v := Hx.yOf "end" "Reader.end" s_Reader_end) 32 rfl rfl) (c.fact (f := fun K => Hx.funB K (f_Reader_end K) "Reader.end" [] []) 66 rfl)
  F_read_forms := Hx.funD_of (c.fn (f := fun K => Hx.fnY K (f_read_forms K)) (v := Hx.yOf "read_forms" "read_forms" s_read_forms) 33 rfl rfl) (c.fact (f := fun K => Hx.funB K (f_read_forms K) "read_forms" [] []) 67 rfl)
  g_read_forms := He.glo_ok X G (c.fact (f := fun K => (He.Fa.glo "read_forms").ok K) 68 rfl)
  k_read_forms := (He.ba (c.fact (f := fun K => Hx.funB K (f_read_forms K) "read_forms" [] []) 67 rfl)).1
  F_read_answers := Hx.funD_of (c.fn (f := fun K => Hx.fnY K (f_read_answers K)) (v := Hx.yOf "read_answers" "read_answers" s_read_answers) 34 rfl rfl) (c.fact (f := fun K => Hx.funB K (f_read_answers K) "read_answers" [] []) 69 rfl)
  g_read_answers := He.glo_ok X G (c.fact (f := fun K => (He.Fa.glo "read_answers").ok K) 70 rfl)
  k_read_answers := (He.ba (c.fact (f := fun K => Hx.funB K (f_read_answers K) "read_answers" [] []) 69 rfl)).1
  F_read_stretches := Hx.funD_of (c.fn (f := fun K => Hx.fnY K (f_read_stretches K)) (v := Hx.yOf "read_stretches" "read_stretches" s_read_stretches) 35 rfl rfl) (c.fact (f := fun K => Hx.funB K (f_read_stretches K) "read_stretches" [] []) 71 rfl)
  g_read_stretches := He.glo_ok X G (c.fact (f := fun K => (He.Fa.glo "read_stretches").ok K) 72 rfl)
  k_read_stretches := (He.ba (c.fact (f := fun K => Hx.funB K (f_read_stretches K) "read_stretches" [] []) 71 rfl)).1
  F_read_rewrite := Hx.funD_of (c.fn (f := fun K => Hx.fnY K (f_read_rewrite K)) (v := Hx.yOf "read_rewrite" "read_rewrite" s_read_rewrite) 36 rfl rfl) (c.fact (f := fun K => Hx.funB K (f_read_rewrite K) "read_rewrite" [] []) 73 rfl)
  g_read_rewrite := He.glo_ok X G (c.fact (f := fun K => (He.Fa.glo "read_rewrite").ok K) 74 rfl)
  k_read_rewrite := (He.ba (c.fact (f := fun K => Hx.funB K (f_read_rewrite K) "read_rewrite" [] []) 73 rfl)).1
  F__law_bag := Hx.funD_of (c.fn (f := fun K => Hx.fnY K (f__law_bag K)) (v := Hx.yOf "_law_bag" "_law_bag" s__law_bag) 37 rfl rfl) (c.fact (f := fun K => Hx.funB K (f__law_bag K) "_law_bag" [] []) 75 rfl)
  g__law_bag := He.glo_ok X G (c.fact (f := fun K => (He.Fa.glo "_law_bag").ok K) 76 rfl)
  k__law_bag := (He.ba (c.fact (f := fun K => Hx.funB K (f__law_bag K) "_law_bag" [] []) 75 rfl)).1
  F__law_draw := Hx.funD_of (c.fn (f := fun K => Hx.fnY K (f__law_draw K)) (v := Hx.yOf "_law_draw" "_law_draw" s__law_draw) 38 rfl rfl) (c.fact (f := fun K => Hx.funB K (f__law_draw K) "_law_draw" [] []) 77 rfl)
  g__law_draw := He.glo_ok X G (c.fact (f := fun K => (He.Fa.glo "_law_draw").ok K) 78 rfl)
  k__law_draw := (He.ba (c.fact (f := fun K => Hx.funB K (f__law_draw K) "_law_draw" [] []) 77 rfl)).1
  F__law_same := Hx.funD_of (c.fn (f := fun K => Hx.fnY K (f__law_same K)) (v := Hx.yOf "_law_same" "_law_same" s__law_same) 39 rfl rfl) (c.fact (f := fun K => Hx.funB K (f__law_same K) "_law_same" [] []) 79 rfl)
  g__law_same := He.glo_ok X G (c.fact (f := fun K => (He.Fa.glo "_law_same").ok K) 80 rfl)
  k__law_same := (He.ba (c.fact (f := fun K => Hx.funB K (f__law_same K) "_law_same" [] []) 79 rfl)).1
  F__law_lines := Hx.funD_of (c.fn (f := fun K => Hx.fnY K (f__law_lines K)) (v := Hx.yOf "_law_lines" "_law_lines" s__law_lines) 40 rfl rfl) (c.fact (f := fun K => Hx.funB K (f__law_lines K) "_law_lines" [] []) 81 rfl)
  g__law_lines := He.glo_ok X G (c.fact (f := fun K => (He.Fa.glo "_law_lines").ok K) 82 rfl)
  k__law_lines := (He.ba (c.fact (f := fun K => Hx.funB K (f__law_lines K) "_law_lines" [] []) 81 rfl)).1
  F__law_word := Hx.funD_of (c.fn (f := fun K => Hx.fnY K (f__law_word K)) (v := Hx.yOf "_law_word" "_law_word" s__law_word) 41 rfl rfl) (c.fact (f := fun K => Hx.funB K (f__law_word K) "_law_word" [] []) 83 rfl)
  g__law_word := He.glo_ok X G (c.fact (f := fun K => (He.Fa.glo "_law_word").ok K) 84 rfl)
  k__law_word := (He.ba (c.fact (f := fun K => Hx.funB K (f__law_word K) "_law_word" [] []) 83 rfl)).1
  F__law_spoil := Hx.funD_of (c.fn (f := fun K => Hx.fnY K (f__law_spoil K)) (v := Hx.yOf "_law_spoil" "_law_spoil" s__law_spoil) 42 rfl rfl) (c.fact (f := fun K => Hx.funB K (f__law_spoil K) "_law_spoil" [] []) 85 rfl)
  g__law_spoil := He.glo_ok X G (c.fact (f := fun K => (He.Fa.glo "_law_spoil").ok K) 86 rfl)
  k__law_spoil := (He.ba (c.fact (f := fun K => Hx.funB K (f__law_spoil K) "_law_spoil" [] []) 85 rfl)).1
  F__law_number := Hx.funD_of (c.fn (f := fun K => Hx.fnY K (f__law_number K)) (v := Hx.yOf "_law_number" "_law_number" s__law_number) 43 rfl rfl) (c.fact (f := fun K => Hx.funB K (f__law_number K) "_law_number" [] []) 87 rfl)
  g__law_number := He.glo_ok X G (c.fact (f := fun K => (He.Fa.glo "_law_number").ok K) 88 rfl)
  k__law_number := (He.ba (c.fact (f := fun K => Hx.funB K (f__law_number K) "_law_number" [] []) 87 rfl)).1
  F__law_fits := Hx.funD_of (c.fn (f := fun K => Hx.fnY K (f__law_fits K)) (v := Hx.yOf "_law_fits" "_law_fits" s__law_fits) 44 rfl rfl) (c.fact (f := fun K => Hx.funB K (f__law_fits K) "_law_fits" [] []) 89 rfl)
  g__law_fits := He.glo_ok X G (c.fact (f := fun K => (He.Fa.glo "_law_fits").ok K) 90 rfl)
  k__law_fits := (He.ba (c.fact (f := fun K => Hx.funB K (f__law_fits K) "_law_fits" [] []) 89 rfl)).1
  F__law_fixed := Hx.funD_of (c.fn (f := fun K => Hx.fnY K (f__law_fixed K)) (v := Hx.yOf "_law_fixed" "_law_fixed" s__law_fixed) 45 rfl rfl) (c.fact (f := fun K => Hx.funB K (f__law_fixed K) "_law_fixed" [] []) 91 rfl)
  g__law_fixed := He.glo_ok X G (c.fact (f := fun K => (He.Fa.glo "_law_fixed").ok K) 92 rfl)
  k__law_fixed := (He.ba (c.fact (f := fun K => Hx.funB K (f__law_fixed K) "_law_fixed" [] []) 91 rfl)).1
  F__law_numbers := Hx.funD_of (c.fn (f := fun K => Hx.fnY K (f__law_numbers K)) (v := Hx.yOf "_law_numbers" "_law_numbers" s__law_numbers) 46 rfl rfl) (c.fact (f := fun K => Hx.funB K (f__law_numbers K) "_law_numbers" [] []) 93 rfl)
  g__law_numbers := He.glo_ok X G (c.fact (f := fun K => (He.Fa.glo "_law_numbers").ok K) 94 rfl)
  k__law_numbers := (He.ba (c.fact (f := fun K => Hx.funB K (f__law_numbers K) "_law_numbers" [] []) 93 rfl)).1
  F__law_numbered := Hx.funD_of (c.fn (f := fun K => Hx.fnY K (f__law_numbered K)) (v := Hx.yOf "_law_numbered" "_law_numbered" s__law_numbered) 47 rfl rfl) (c.fact (f := fun K => Hx.funB K (f__law_numbered K) "_law_numbered" [] []) 95 rfl)
  g__law_numbered := He.glo_ok X G (c.fact (f := fun K => (He.Fa.glo "_law_numbered").ok K) 96 rfl)
  k__law_numbered := (He.ba (c.fact (f := fun K => Hx.funB K (f__law_numbered K) "_law_numbered" [] []) 95 rfl)).1
  F__law_wrong := Hx.funD_of (c.fn (f := fun K => Hx.fnY K (f__law_wrong K)) (v := Hx.yOf "_law_wrong" "_law_wrong" s__law_wrong) 48 rfl rfl) (c.fact (f := fun K => Hx.funB K (f__law_wrong K) "_law_wrong" [] []) 97 rfl)
  g__law_wrong := He.glo_ok X G (c.fact (f := fun K => (He.Fa.glo "_law_wrong").ok K) 98 rfl)
  k__law_wrong := (He.ba (c.fact (f := fun K => Hx.funB K (f__law_wrong K) "_law_wrong" [] []) 97 rfl)).1
  F__law_next := Hx.funD_of (c.fn (f := fun K => Hx.fnY K (f__law_next K)) (v := Hx.yOf "_law_next" "_law_next" s__law_next) 49 rfl rfl) (c.fact (f := fun K => Hx.funB K (f__law_next K) "_law_next" [] []) 99 rfl)
  g__law_next := He.glo_ok X G (c.fact (f := fun K => (He.Fa.glo "_law_next").ok K) 100 rfl)
  k__law_next := (He.ba (c.fact (f := fun K => Hx.funB K (f__law_next K) "_law_next" [] []) 99 rfl)).1
  F__law_due := Hx.funD_of (c.fn (f := fun K => Hx.fnY K (f__law_due K)) (v := Hx.yOf "_law_due" "_law_due" s__law_due) 50 rfl rfl) (c.fact (f := fun K => Hx.funB K (f__law_due K) "_law_due" [] []) 101 rfl)
  g__law_due := He.glo_ok X G (c.fact (f := fun K => (He.Fa.glo "_law_due").ok K) 102 rfl)
  k__law_due := (He.ba (c.fact (f := fun K => Hx.funB K (f__law_due K) "_law_due" [] []) 101 rfl)).1
  F__law_asked := Hx.funD_of (c.fn (f := fun K => Hx.fnY K (f__law_asked K)) (v := Hx.yOf "_law_asked" "_law_asked" s__law_asked) 51 rfl rfl) (c.fact (f := fun K => Hx.funB K (f__law_asked K) "_law_asked" [] []) 103 rfl)
  g__law_asked := He.glo_ok X G (c.fact (f := fun K => (He.Fa.glo "_law_asked").ok K) 104 rfl)
  k__law_asked := (He.ba (c.fact (f := fun K => Hx.funB K (f__law_asked K) "_law_asked" [] []) 103 rfl)).1
  F_law := Hx.funD_of (c.fn (f := fun K => Hx.fnY K (f_law K)) (v := Hx.yOf "law" "law" s_law) 52 rfl rfl) (c.fact (f := fun K => Hx.funB K (f_law K) "law" [] []) 105 rfl)
  g_law := He.glo_ok X G (c.fact (f := fun K => (He.Fa.glo "law").ok K) 106 rfl)
  k_law := (He.ba (c.fact (f := fun K => Hx.funB K (f_law K) "law" [] []) 105 rfl)).1
  g_Form := He.glo_ok X G (c.fact (f := fun K => (He.Fa.glo "Form").ok K) 107 rfl)
  cl_Form := He.cls_ok (c.fact (f := fun K => (He.Fa.cls "Form").ok K) 108 rfl)
  mk_Form := He.mkr_ok (c.fact (f := fun K => (He.Fa.mkr "Form").ok K) 109 rfl)
  n_Form_name := He.noat_ok (c.fact (f := fun K => (He.Fa.noat "Form" "name").ok K) 110 rfl)
  n_Form_length := He.noat_ok (c.fact (f := fun K => (He.Fa.noat "Form" "length").ok K) 111 rfl)
  n_Form_flow := He.noat_ok (c.fact (f := fun K => (He.Fa.noat "Form" "flow").ok K) 112 rfl)
  g_CodeSet := He.glo_ok X G (c.fact (f := fun K => (He.Fa.glo "CodeSet").ok K) 113 rfl)
  cl_CodeSet := He.cls_ok (c.fact (f := fun K => (He.Fa.cls "CodeSet").ok K) 114 rfl)
  mk_CodeSet := He.mkr_ok (c.fact (f := fun K => (He.Fa.mkr "CodeSet").ok K) 115 rfl)
  n_CodeSet_stop := He.noat_ok (c.fact (f := fun K => (He.Fa.noat "CodeSet" "stop").ok K) 116 rfl)
  n_CodeSet_order := He.noat_ok (c.fact (f := fun K => (He.Fa.noat "CodeSet" "order").ok K) 117 rfl)
  n_CodeSet_table := He.noat_ok (c.fact (f := fun K => (He.Fa.noat "CodeSet" "table").ok K) 118 rfl)
  m_CodeSet_followers := He.meth_ok (c.fact (f := fun K => (He.Fa.meth "CodeSet" "followers").ok K) 119 rfl)
  g_Layout := He.glo_ok X G (c.fact (f := fun K => (He.Fa.glo "Layout").ok K) 120 rfl)
  cl_Layout := He.cls_ok (c.fact (f := fun K => (He.Fa.cls "Layout").ok K) 121 rfl)
  mk_Layout := He.mkr_ok (c.fact (f := fun K => (He.Fa.mkr "Layout").ok K) 122 rfl)
  n_Layout_held_unit := He.noat_ok (c.fact (f := fun K => (He.Fa.noat "Layout" "held_unit").ok K) 123 rfl)
  n_Layout_held_chunk := He.noat_ok (c.fact (f := fun K => (He.Fa.noat "Layout" "held_chunk").ok K) 124 rfl)
  g_Program := He.glo_ok X G (c.fact (f := fun K => (He.Fa.glo "Program").ok K) 125 rfl)
  cl_Program := He.cls_ok (c.fact (f := fun K => (He.Fa.cls "Program").ok K) 126 rfl)
  mk_Program := He.mkr_ok (c.fact (f := fun K => (He.Fa.mkr "Program").ok K) 127 rfl)
  n_Program_roots := He.noat_ok (c.fact (f := fun K => (He.Fa.noat "Program" "roots").ok K) 128 rfl)
  n_Program_laid := He.noat_ok (c.fact (f := fun K => (He.Fa.noat "Program" "laid").ok K) 129 rfl)
  n_Program_spots := He.noat_ok (c.fact (f := fun K => (He.Fa.noat "Program" "spots").ok K) 130 rfl)
  n_Program_leads := He.noat_ok (c.fact (f := fun K => (He.Fa.noat "Program" "leads").ok K) 131 rfl)
  g_Rewrite := He.glo_ok X G (c.fact (f := fun K => (He.Fa.glo "Rewrite").ok K) 132 rfl)
  cl_Rewrite := He.cls_ok (c.fact (f := fun K => (He.Fa.cls "Rewrite").ok K) 133 rfl)
  mk_Rewrite := He.mkr_ok (c.fact (f := fun K => (He.Fa.mkr "Rewrite").ok K) 134 rfl)
  n_Rewrite_codes := He.noat_ok (c.fact (f := fun K => (He.Fa.noat "Rewrite" "codes").ok K) 135 rfl)
  n_Rewrite_laid_out := He.noat_ok (c.fact (f := fun K => (He.Fa.noat "Rewrite" "laid_out").ok K) 136 rfl)
  n_Rewrite_old := He.noat_ok (c.fact (f := fun K => (He.Fa.noat "Rewrite" "old").ok K) 137 rfl)
  n_Rewrite_new := He.noat_ok (c.fact (f := fun K => (He.Fa.noat "Rewrite" "new").ok K) 138 rfl)
  n_Rewrite_entries := He.noat_ok (c.fact (f := fun K => (He.Fa.noat "Rewrite" "entries").ok K) 139 rfl)
  n_Rewrite_stood := He.noat_ok (c.fact (f := fun K => (He.Fa.noat "Rewrite" "stood").ok K) 140 rfl)
  n_Rewrite_stretches := He.noat_ok (c.fact (f := fun K => (He.Fa.noat "Rewrite" "stretches").ok K) 141 rfl)
  n_Rewrite_old_program := He.noat_ok (c.fact (f := fun K => (He.Fa.noat "Rewrite" "old_program").ok K) 142 rfl)
  n_Rewrite_new_program := He.noat_ok (c.fact (f := fun K => (He.Fa.noat "Rewrite" "new_program").ok K) 143 rfl)
  n_Rewrite_answers := He.noat_ok (c.fact (f := fun K => (He.Fa.noat "Rewrite" "answers").ok K) 144 rfl)
  n_Rewrite_told_ones := He.noat_ok (c.fact (f := fun K => (He.Fa.noat "Rewrite" "told_ones").ok K) 145 rfl)
  n_Rewrite_crossed := He.noat_ok (c.fact (f := fun K => (He.Fa.noat "Rewrite" "crossed").ok K) 146 rfl)
  n_Rewrite_open_ones := He.noat_ok (c.fact (f := fun K => (He.Fa.noat "Rewrite" "open_ones").ok K) 147 rfl)
  n_Rewrite_many_images := He.noat_ok (c.fact (f := fun K => (He.Fa.noat "Rewrite" "many_images").ok K) 148 rfl)
  g_Reader := He.glo_ok X G (c.fact (f := fun K => (He.Fa.glo "Reader").ok K) 149 rfl)
  cl_Reader := He.cls_ok (c.fact (f := fun K => (He.Fa.cls "Reader").ok K) 150 rfl)
  mk_Reader := He.mkr_ok (c.fact (f := fun K => (He.Fa.mkr "Reader").ok K) 151 rfl)
  n_Reader_lines := He.noat_ok (c.fact (f := fun K => (He.Fa.noat "Reader" "lines").ok K) 152 rfl)
  n_Reader_at := He.noat_ok (c.fact (f := fun K => (He.Fa.noat "Reader" "at").ok K) 153 rfl)
  m_Reader_begins := He.meth_ok (c.fact (f := fun K => (He.Fa.meth "Reader" "begins").ok K) 154 rfl)
  m_Reader_take := He.meth_ok (c.fact (f := fun K => (He.Fa.meth "Reader" "take").ok K) 155 rfl)
  m_Reader_fixed := He.meth_ok (c.fact (f := fun K => (He.Fa.meth "Reader" "fixed").ok K) 156 rfl)
  m_Reader_numbers := He.meth_ok (c.fact (f := fun K => (He.Fa.meth "Reader" "numbers").ok K) 157 rfl)
  m_Reader_ascends := He.meth_ok (c.fact (f := fun K => (He.Fa.meth "Reader" "ascends").ok K) 158 rfl)
  m_Reader_end := He.meth_ok (c.fact (f := fun K => (He.Fa.meth "Reader" "end").ok K) 159 rfl)
  p_Layout_unit := Hx.prop_of (c.fact (f := fun K => Hx.propB K (C_Layout K) "unit" (He.ma K (C_Layout K) "unit")) 160 rfl)
  p_Layout_chunk := Hx.prop_of (c.fact (f := fun K => Hx.propB K (C_Layout K) "chunk" (He.ma K (C_Layout K) "chunk")) 161 rfl)
  co_CodeSet := Hx.call_of (c.fact (f := fun K => Hx.callB K (C_CodeSet K) (f_CodeSet___call__ K)) 162 rfl)
  x_BadCodes := SupX.sup_of (He.glo_ok X G (c.fact (f := fun K => (He.Fa.glo "BadCodes").ok K) 163 rfl)) (He.free_ok X G (c.fact (f := fun K => (He.Fa.free "super").ok K) 164 rfl)) (by decide +kernel) (c.fn (f := fun K => Hx.fnY K (He.ma K (C_BadCodes K) "__init__")) (v := Hx.yOf "__init__" "BadCodes.__init__" s_BadCodes_init) 53 rfl rfl) (c.fact (f := fun K => SupX.supB PW K (C_BadCodes K) (He.ma K (C_BadCodes K) "__init__") ["part"] "BadCodes.__init__") 165 rfl) it_BadCodes
  x_BadLayout := SupX.sup_of (He.glo_ok X G (c.fact (f := fun K => (He.Fa.glo "BadLayout").ok K) 166 rfl)) (He.free_ok X G (c.fact (f := fun K => (He.Fa.free "super").ok K) 164 rfl)) (by decide +kernel) (c.fn (f := fun K => Hx.fnY K (He.ma K (C_BadLayout K) "__init__")) (v := Hx.yOf "__init__" "BadLayout.__init__" s_BadLayout_init) 54 rfl rfl) (c.fact (f := fun K => SupX.supB PW K (C_BadLayout K) (He.ma K (C_BadLayout K) "__init__") ["part"] "BadLayout.__init__") 167 rfl) it_BadLayout
  x_UnlikeLengths := SupX.sup_of (He.glo_ok X G (c.fact (f := fun K => (He.Fa.glo "UnlikeLengths").ok K) 168 rfl)) (He.free_ok X G (c.fact (f := fun K => (He.Fa.free "super").ok K) 164 rfl)) (by decide +kernel) (c.fn (f := fun K => Hx.fnY K (He.ma K (C_UnlikeLengths K) "__init__")) (v := Hx.yOf "__init__" "UnlikeLengths.__init__" s_UnlikeLengths_init) 55 rfl rfl) (c.fact (f := fun K => SupX.supB PW K (C_UnlikeLengths K) (He.ma K (C_UnlikeLengths K) "__init__") ["one", "other"] "UnlikeLengths.__init__") 169 rfl) it_UnlikeLengths
  x_BadRewrite := SupX.sup_of (He.glo_ok X G (c.fact (f := fun K => (He.Fa.glo "BadRewrite").ok K) 170 rfl)) (He.free_ok X G (c.fact (f := fun K => (He.Fa.free "super").ok K) 164 rfl)) (by decide +kernel) (c.fn (f := fun K => Hx.fnY K (He.ma K (C_BadRewrite K) "__init__")) (v := Hx.yOf "__init__" "BadRewrite.__init__" s_BadRewrite_init) 56 rfl rfl) (c.fact (f := fun K => SupX.supB PW K (C_BadRewrite K) (He.ma K (C_BadRewrite K) "__init__") ["part", "at"] "BadRewrite.__init__") 171 rfl) it_BadRewrite
  x_BadText := SupX.sup_of (He.glo_ok X G (c.fact (f := fun K => (He.Fa.glo "BadText").ok K) 172 rfl)) (He.free_ok X G (c.fact (f := fun K => (He.Fa.free "super").ok K) 164 rfl)) (by decide +kernel) (c.fn (f := fun K => Hx.fnY K (He.ma K (C_BadText K) "__init__")) (v := Hx.yOf "__init__" "BadText.__init__" s_BadText_init) 57 rfl rfl) (c.fact (f := fun K => SupX.supB PW K (C_BadText K) (He.ma K (C_BadText K) "__init__") ["line", "word"] "BadText.__init__") 173 rfl) it_BadText
  x_NotWhole := SupX.sup_of (He.glo_ok X G (c.fact (f := fun K => (He.Fa.glo "NotWhole").ok K) 174 rfl)) (He.free_ok X G (c.fact (f := fun K => (He.Fa.free "super").ok K) 164 rfl)) (by decide +kernel) (c.fn (f := fun K => Hx.fnY K (He.ma K (C_NotWhole K) "__init__")) (v := Hx.yOf "__init__" "NotWhole.__init__" s_NotWhole_init) 58 rfl rfl) (c.fact (f := fun K => SupX.supB PW K (C_NotWhole K) (He.ma K (C_NotWhole K) "__init__") ["place"] "NotWhole.__init__") 175 rfl) it_NotWhole
  x_OldNotWhole := SupX.sup_of (He.glo_ok X G (c.fact (f := fun K => (He.Fa.glo "OldNotWhole").ok K) 176 rfl)) (He.free_ok X G (c.fact (f := fun K => (He.Fa.free "super").ok K) 164 rfl)) (by decide +kernel) (c.fn (f := fun K => Hx.fnY K (He.ma K (C_OldNotWhole K) "__init__")) (v := Hx.yOf "__init__" "OldNotWhole.__init__" s_OldNotWhole_init) 59 rfl rfl) (c.fact (f := fun K => SupX.supB PW K (C_OldNotWhole K) (He.ma K (C_OldNotWhole K) "__init__") ["place"] "OldNotWhole.__init__") 177 rfl) it_OldNotWhole
  x_NewNotWhole := SupX.sup_of (He.glo_ok X G (c.fact (f := fun K => (He.Fa.glo "NewNotWhole").ok K) 178 rfl)) (He.free_ok X G (c.fact (f := fun K => (He.Fa.free "super").ok K) 164 rfl)) (by decide +kernel) (c.fn (f := fun K => Hx.fnY K (He.ma K (C_NewNotWhole K) "__init__")) (v := Hx.yOf "__init__" "NewNotWhole.__init__" s_NewNotWhole_init) 60 rfl rfl) (c.fact (f := fun K => SupX.supB PW K (C_NewNotWhole K) (He.ma K (C_NewNotWhole K) "__init__") ["place"] "NewNotWhole.__init__") 179 rfl) it_NewNotWhole
  cv_Form_FLOWS := Hx.ktup_of (c.fact (f := fun K => Hx.ktupB K (C_Form K) "FLOWS" [.str "next", .str "jump", .str "test", .str "end"]) 180 rfl)
  cv_Layout_UNITS := Hx.ktup_of (c.fact (f := fun K => Hx.ktupB K (C_Layout K) "UNITS" [.int 1, .int 2, .int 4, .int 8]) 181 rfl)
  cv_Layout_CHUNKS := Hx.ktup_of (c.fact (f := fun K => Hx.ktupB K (C_Layout K) "CHUNKS" [.int 1, .int 2, .int 4, .int 8, .int 16]) 182 rfl)
  cv_CodeSet_MOST_FORMS := Hx.kint_of (c.fact (f := fun K => Hx.kintB K (C_CodeSet K) "MOST_FORMS" 16) 183 rfl)
  m_Program___contains__ := He.meth_ok (c.fact (f := fun K => (He.Fa.meth "Program" "__contains__").ok K) 184 rfl)
  m_Program___iter__ := He.meth_ok (c.fact (f := fun K => (He.Fa.meth "Program" "__iter__").ok K) 185 rfl)
  xf_NotWhole := xfB_ok (c.fact (f := fun K => xfB K (C_NotWhole K)) 186 rfl)
  nx_NotWhole_place := He.eqO_ok (c.fact (f := fun K => He.eqO (PySem.W.findIn K (.ref (C_NotWhole K)) "place") (some none)) 187 rfl)
  ex_NotWhole := Hx.exm_of (c.fact (f := fun K => Hx.exmB K (C_NotWhole K) (C_NotWhole K) true) 188 rfl)
  g_CodeError := He.glo_ok X G (c.fact (f := fun K => (He.Fa.glo "CodeError").ok K) 189 rfl)
  g_BadInput := He.glo_ok X G (c.fact (f := fun K => (He.Fa.glo "BadInput").ok K) 190 rfl)
  g_NotRight := He.glo_ok X G (c.fact (f := fun K => (He.Fa.glo "NotRight").ok K) 191 rfl)
  oth := fun C hC => (fun z => ⟨Hx.excC_of (He.ba z).1, Hx.exm_of (He.ba (He.ba z).2).1, Hx.kit_of1 (He.ba (He.ba z).2).2⟩) (List.all_eq_true.mp (c.fact (f := fun K => (([C_BadCodes K, C_BadLayout K, C_UnlikeLengths K, C_BadRewrite K, C_OldNotWhole K, C_NewNotWhole K] : List Addr).all fun C => Hx.excCB K C && (Hx.exmB K C (He.ga K "CodeError") true && Hx.kitB1 K C (C_BadText K) false))) 192 rfl) C hC)
  bt_c := Hx.excC_of (c.fact (f := fun K => Hx.excCB K (C_BadText K)) 193 rfl)
  bt_x := Hx.exm_of (c.fact (f := fun K => Hx.exmB K (C_BadText K) (He.ga K "CodeError") true) 194 rfl)
  bt_1 := Hx.kit_of1 (c.fact (f := fun K => Hx.kitB1 K (C_BadText K) (C_BadText K) true) 195 rfl)
  bt_2 := Hx.kit_of1 (c.fact (f := fun K => Hx.kitB1 K (C_BadText K) (He.ga K "BadInput") true) 196 rfl)
  bt_3 := Hx.kit_of1 (c.fact (f := fun K => Hx.kitB1 K (C_BadText K) (He.ga K "NotRight") false) 197 rfl)
  xf_BadText := xfB_ok (c.fact (f := fun K => xfB K (C_BadText K)) 198 rfl)
  nx_BadText_line := He.eqO_ok (c.fact (f := fun K => He.eqO (PySem.W.findIn K (.ref (C_BadText K)) "line") (some none)) 199 rfl)
  nx_BadText_word := He.eqO_ok (c.fact (f := fun K => He.eqO (PySem.W.findIn K (.ref (C_BadText K)) "word") (some none)) 200 rfl)
abbrev hR : PySem.W.OpenRow := PySem.W.OpenLaw.row PySem.Challenge.rw_codestitch_k93_texts_refused
def hLoose : List PySem.Str := (["_wall", "CodeError", "BadInput", "NotRight", "BadCodes", "BadLayout", "BadByte", "BadAddress", "UnlikeLengths", "BadRewrite", "BadText", "NotWhole", "OldNotWhole", "NewNotWhole", "LETTERS", "is_byte", "is_name", "Form", "check_forms", "CodeSet", "Layout", "DIGITS", "MOST_DIGITS", "MOST_NUMBER", "is_number", "split_lines", "stands", "check_line", "read_numbers", "instruction_at"] : List PySem.Str) ++
  (["explore", "Program", "old_program_of", "new_program_of", "values_at", "stop_fits", "look_through", "Rewrite", "Reader", "read_forms", "read_answers", "read_stretches", "read_rewrite", "_law_bag", "_law_draw", "_law_same", "_law_lines", "_law_word", "_law_spoil", "_law_number", "_law_fits", "_law_fixed", "_law_numbers", "_law_numbered", "_law_wrong", "_law_next", "_law_due", "_law_asked"] : List PySem.Str)
abbrev hk : PySem.W.Hook := Hx.hookH hFa hFn hVals hAs
def hOb (s : PySem.W.SharedT) : Bool × List Hx.FnY := ((hFa.all fun c => c (He.frG (HandSHeadRun.getT s) hAs)), hFn.map fun f => f (He.frG (HandSHeadRun.getT s) hAs))
theorem hOb_eq (s : PySem.W.SharedT) : hOb s = hk.obs s.abs := Hx.obsH_eq s
noncomputable abbrev hEnd (w : World) (os : OsState) : Option PySem.W.SharedT := HandSHeadRun.endF (HandSHeadRun.stepQ (HandSHeadRun.denQ HandSHeadRun.tabQ) hR.prog w) 9000 hR.prog w os
open PySem PySem.Spec PyProof.Rows L2
theorem look1 (w : World) (os : OsState) : (hEnd w os).map (fun s => HandSHeadRun.looksF hR.prog (PySem.W.boot_heap w.params) s.abs) = some true := by kernel_rfl
open PySem PySem.Spec PyProof.Rows L2
theorem look2 (w : World) (os : OsState) : (hEnd w os).map (fun s => HandSHeadRun.seenQ (PySem.W.view hR.prog [66]) hLoose (importedModules hR.prog.main.body) (fun s => PySem.W.xlAt (PySem.W.view hR.prog [66]) [] s && PySem.W.recOk hR.toRowW.records s) s.abs) = some (PySem.W.openGood (PySem.W.view hR.prog [66]) hLoose) := by kernel_rfl
open PySem PySem.Spec PyProof.Rows L2
theorem look3 (w : World) (os : OsState) : (hEnd w os).map (fun s => hFa.all fun c => c (He.frG (HandSHeadRun.getT s) hAs)) = some true := by kernel_rfl
open PySem PySem.Spec PyProof.Rows L2
theorem look4 (w : World) (os : OsState) : (hEnd w os).map (fun s => hFn.map fun f => f (He.frG (HandSHeadRun.getT s) hAs)) = some hVals := by kernel_rfl
end Cs
namespace Hb
open PySem PySem.Spec PyProof.Rows L2 Evl
theorem for_J {J : It} {n : Nat} {g : TG} {tb : TS} {D : Ends} {σ : L2.St} {H : Hp} (Pv : Nat → L2.St → Hp → Prop) (h0 : Pv 0 σ H) (hg : ∀ i σ H, i < n → Pv i σ H → J.go i H) (hst : ∀ σ H, Pv n σ H → J.stop n H)
    (hs : ∀ i x σ H H', i < n → Pv i σ H → J.yld i H x H' → g x σ H' fun σ2 H2 => tb { D with nx := Pv (i + 1), ct := Pv (i + 1), bk := D.nx } σ2 H2) (hd : ∀ σ H, Pv n σ H → D.nx σ H) :
    ∃ W : Nat → Nat → L2.St → Hp → Prop, (∃ m, W 0 m σ H) ∧ ∀ i m σ H, W i m σ H →
      (J.stop i H ∧ D.nx σ H) ∨ (J.go i H ∧ ∃ N : L2.St → Hp → Prop, (∀ σ' H', N σ' H' → ∃ m', m' < m ∧ W (i + 1) m' σ' H') ∧ ∀ x H', J.yld i H x H' → g x σ H' fun σ2 H2 => tb { D with nx := N, ct := N, bk := D.nx } σ2 H2) := by
  refine ⟨fun i m σ H => m = n - i ∧ i ≤ n ∧ Pv i σ H, ⟨n, by simp, Nat.zero_le _, h0⟩, ?_⟩
  rintro i m σ H ⟨rfl, hi, p⟩
  by_cases hlt : i < n
  · exact .inr ⟨hg i σ H hlt p, Pv (i + 1), fun σ' H' p' => ⟨n - (i + 1), by omega, rfl, hlt, p'⟩, fun x H' y => hs i x σ H H' hlt p y⟩
  · have e : i = n := by omega
    subst e
    exact .inl ⟨hst σ H p, hd σ H p⟩
theorem lc_J {J : It} {n : Nat} {g : TG} {tt : TT} {te : TE} {vs : List Nat} {σ : L2.St} {H1 : Hp} {D : Addr} {Qd : Hp → Prop} (Pv : Nat → Hp → Prop) (h0 : Pv 0 (upd H1 D (.lst []))) (hg : ∀ i H, i < n → Pv i H → J.go i H) (hst : ∀ H, Pv n H → J.stop n H)
    (hs : ∀ i x H H', i < n → Pv i H → J.yld i H x H' → g x (wipe σ vs) H' fun σ2 H2 => wipe σ2 vs = wipe σ vs ∧ tt σ2 H2 fun b H3 =>
      if b = true then te σ2 H3 fun y H4 => ∃ acc, H4 D = some (.lst acc) ∧ acc.length < sizeLine ∧ Pv (i + 1) (upd H4 D (.lst (acc ++ [y]))) else Pv (i + 1) H3) (hd : ∀ H, Pv n H → Qd H) :
    ∃ W : Nat → Nat → Hp → Prop, (∃ m, W 0 m (upd H1 D (.lst []))) ∧ ∀ i m H, W i m H →
      (J.stop i H ∧ Qd H) ∨ (J.go i H ∧ ∃ Nx : Hp → Prop, (∀ H', Nx H' → ∃ m', m' < m ∧ W (i + 1) m' H') ∧ ∀ x H', J.yld i H x H' → g x (wipe σ vs) H' fun σ2 H2 => wipe σ2 vs = wipe σ vs ∧ tt σ2 H2 fun b H3 =>
        if b = true then te σ2 H3 fun y H4 => ∃ acc, H4 D = some (.lst acc) ∧ acc.length < sizeLine ∧ Nx (upd H4 D (.lst (acc ++ [y]))) else Nx H3) := by
  refine ⟨fun i m H => m = n - i ∧ i ≤ n ∧ Pv i H, ⟨n, by simp, Nat.zero_le _, h0⟩, ?_⟩
  rintro i m H ⟨rfl, hi, p⟩
  by_cases hlt : i < n
  · exact .inr ⟨hg i H hlt p, Pv (i + 1), fun H' p' => ⟨n - (i + 1), by omega, rfl, hlt, p'⟩, fun x H' y => hs i x H H' hlt p y⟩
  · have e : i = n := by omega
    subst e
    exact .inl ⟨hst H p, hd H p⟩
theorem dc_J {J : It} {n : Nat} {g : TG} {tt : TT} {tk tv : TE} {vs : List Nat} {σ : L2.St} {H1 : Hp} {D : Addr} {Qd : Hp → Prop} (Pv : Nat → Hp → Prop) (h0 : Pv 0 (upd H1 D (.dK []))) (hg : ∀ i H, i < n → Pv i H → J.go i H) (hst : ∀ H, Pv n H → J.stop n H)
    (hs : ∀ i x H H', i < n → Pv i H → J.yld i H x H' → g x (wipe σ vs) H' fun σ2 H2 => wipe σ2 vs = wipe σ vs ∧ tt σ2 H2 fun b H3 =>
      if b = true then tk σ2 H3 fun y H4 => tv σ2 H4 fun z H5 => ∃ kvs k, y = kV k ∧ H5 D = some (.dK kvs) ∧ kvs.length < sizeLine ∧ Pv (i + 1) (upd H5 D (.dK (putK kvs k z))) else Pv (i + 1) H3) (hd : ∀ H, Pv n H → Qd H) :
    ∃ W : Nat → Nat → Hp → Prop, (∃ m, W 0 m (upd H1 D (.dK []))) ∧ ∀ i m H, W i m H →
      (J.stop i H ∧ Qd H) ∨ (J.go i H ∧ ∃ Nx : Hp → Prop, (∀ H', Nx H' → ∃ m', m' < m ∧ W (i + 1) m' H') ∧ ∀ x H', J.yld i H x H' → g x (wipe σ vs) H' fun σ2 H2 => wipe σ2 vs = wipe σ vs ∧ tt σ2 H2 fun b H3 =>
        if b = true then tk σ2 H3 fun y H4 => tv σ2 H4 fun z H5 => ∃ kvs k, y = kV k ∧ H5 D = some (.dK kvs) ∧ kvs.length < sizeLine ∧ Nx (upd H5 D (.dK (putK kvs k z))) else Nx H3) := by
  refine ⟨fun i m H => m = n - i ∧ i ≤ n ∧ Pv i H, ⟨n, by simp, Nat.zero_le _, h0⟩, ?_⟩
  rintro i m H ⟨rfl, hi, p⟩
  by_cases hlt : i < n
  · exact .inr ⟨hg i H hlt p, Pv (i + 1), fun H' p' => ⟨n - (i + 1), by omega, rfl, hlt, p'⟩, fun x H' y => hs i x H H' hlt p y⟩
  · have e : i = n := by omega
    subst e
    exact .inl ⟨hst H p, hd H p⟩
structure Steady (J : It) (xs : List V) (H : Hp) : Prop where
  go : ∀ i H1, Ex H H1 → i < xs.length → J.go i H1
  stop : ∀ H1, Ex H H1 → J.stop xs.length H1
  yld : ∀ i H1 x H2, Ex H H1 → i < xs.length → J.yld i H1 x H2 → H2 = H1 ∧ xs[i]? = some x
theorem Steady.mono {J : It} {xs : List V} {H H' : Hp} (s : Steady J xs H) (e : Ex H H') : Steady J xs H' := ⟨fun i H1 a => s.go i H1 (e.trans a), fun H1 a => s.stop H1 (e.trans a), fun i H1 x H2 a => s.yld i H1 x H2 (e.trans a)⟩
theorem steady_l {K : PySem.W.Frag} {H : Hp} {a : Addr} {xs : List V} (h : SqL K H a xs) : Steady (Itl K a) xs H where
  go := fun i H1 e hi => ⟨xs, xs[i], ex_l e h, by simp [hi]⟩
  stop := fun H1 e => ⟨xs, ex_l e h, Nat.le_refl _⟩
  yld := fun i H1 x H2 e hi y => by
    obtain ⟨e2, y⟩ := y
    exact ⟨e2, y xs (ex_l e h)⟩
theorem steady_t {K : PySem.W.Frag} {H : Hp} {a : Addr} {xs : List V} (h : SqT K H a xs) : Steady (Itt K a) xs H where
  go := fun i H1 e hi => ⟨xs, xs[i], ex_t e h, by simp [hi]⟩
  stop := fun H1 e => ⟨xs, ex_t e h, Nat.le_refl _⟩
  yld := fun i H1 x H2 e hi y => by
    obtain ⟨e2, y⟩ := y
    exact ⟨e2, y xs (ex_t e h)⟩
abbrev oneS (c : Nat) : V := V.str ⟨#[c]⟩
def signV (z : Str) : List V := z.cps.toList.map oneS
theorem signV_len (z : Str) : (signV z).length = z.cps.size := by simp [signV]
theorem steady_s {H : Hp} {z : Str} : Steady (Its z) (signV z) H where
  go := fun i H1 e hi => by rw [signV_len] at hi; exact hi
  stop := fun H1 e => by show z.cps.size ≤ _; rw [signV_len]; exact Nat.le_refl _
  yld := fun i H1 x H2 e hi y => by
    obtain ⟨e2, c, hc, ex⟩ := y
    subst ex
    refine ⟨e2, ?_⟩
    have : z.cps.toList[i]? = some c := by rw [← hc]; simp
    simp [signV, this, oneS]
def intsV (lo : Int) (n : Nat) : List V := (List.range n).map fun i => V.int (lo + (i : Nat))
theorem intsV_len (lo : Int) (n : Nat) : (intsV lo n).length = n := by simp [intsV]
theorem steady_r {H : Hp} {lo : Int} {n : Nat} : Steady (Itr lo n) (intsV lo n) H where
  go := fun i H1 e hi => by rw [intsV_len] at hi; exact hi
  stop := fun H1 e => by show n ≤ _; rw [intsV_len]; exact Nat.le_refl _
  yld := fun i H1 x H2 e hi y => by
    obtain ⟨e2, ex⟩ := y
    subst ex
    rw [intsV_len] at hi
    exact ⟨e2, by simp [intsV, hi]⟩
def EvI (wi : TI) (σ : L2.St) (H : Hp) (xs : List V) : Prop := ∀ H1, Ex H H1 → ∀ R : It → Hp → Prop, (∀ J H2, Ex H1 H2 → Steady J xs H2 → R J H2) → wi σ H1 R
section
variable {K : PySem.W.Frag} {σ : L2.St} {H H' : Hp} {ta tb te tx : TE} {t u : TT} {x y z v : V} {r : R2}
theorem ei_l {a : Addr} {xs : List V} (h : Ev te σ H (.ref a)) (hx : SqL K H a xs) : EvI (iList K te) σ H xs := fun H1 e R q => h H1 e _ fun H2 e2 => ⟨a, rfl, ⟨xs, ex_l (e.trans e2) hx⟩, q _ H2 e2 (steady_l (ex_l (e.trans e2) hx))⟩
theorem ei_nl {xs : List V} (h : EvL te σ H xs) : EvI (iList K te) σ H xs := fun H1 e R q => h H1 e _ fun p H2 _ e2 h2 => ⟨p, rfl, ⟨xs, sq_of h2⟩, q _ H2 e2 (steady_l (sq_of h2))⟩
theorem ei_t {a : Addr} {xs : List V} (h : Ev te σ H (.ref a)) (hx : SqT K H a xs) : EvI (iTup K te) σ H xs := fun H1 e R q => h H1 e _ fun H2 e2 => ⟨a, rfl, ⟨xs, ex_t (e.trans e2) hx⟩, q _ H2 e2 (steady_t (ex_t (e.trans e2) hx))⟩
theorem ei_s {s : Str} (h : Ev te σ H (.str s)) : EvI (iStr te) σ H (s.cps.toList.map oneS) := fun H1 e R q => h H1 e _ fun H2 e2 => ⟨s, rfl, q _ H2 e2 steady_s⟩
theorem ei_r1 {ta : TA} {n : Int} (h : EvA ta σ H [.int n]) (hn : -(2 ^ 62) ≤ n ∧ n < 2 ^ 62) : EvI (iRng1 ta) σ H (intsV 0 n.toNat) := fun H1 e R q => h H1 e _ fun H2 e2 => ⟨n, rfl, hn.1, hn.2, q _ H2 e2 steady_r⟩
theorem ei_r2 {ta : TA} {lo n : Int} (h : EvA ta σ H [.int lo, .int n]) (hl : -(2 ^ 62) ≤ lo ∧ lo < 2 ^ 62) (hn : -(2 ^ 62) ≤ n ∧ n < 2 ^ 62) : EvI (iRng2 ta) σ H (intsV lo (n - lo).toNat) := fun H1 e R q => h H1 e _ fun H2 e2 => ⟨lo, n, rfl, ⟨hl.1, hl.2, hn.1, hn.2⟩, q _ H2 e2 steady_r⟩
theorem take_filter {α β : Type} {xs : List α} {f : α → Bool} {v : α → β} {i : Nat} {x : α} (hx : xs[i]? = some x) : ((xs.take (i + 1)).filter f).map v = ((xs.take i).filter f).map v ++ (if f x = true then [v x] else []) := by
  rw [List.take_add_one, hx, List.filter_append, List.map_append]
  by_cases h : f x = true
  · simp [h]
  · simp [h]
theorem el_lcP {α : Type} {ys : List α} {ex : α → V} {wi : TI} {g : TG} {vs : List Nat} (f : α → Bool) (v : α → V) (hi : EvI wi σ H (ys.map ex)) (hz : ys.length ≤ sizeLine)
    (hs : ∀ (i : Nat) (y : α) H1, Ex H H1 → ys[i]? = some y → ∀ Q : L2.St → Hp → Prop, (∀ σ2 H2, Ex H1 H2 → wipe σ2 vs = wipe σ vs → EvT t σ2 H2 (f y) → (f y = true → Ev te σ2 H2 (v y)) → Q σ2 H2) → g (ex y) (wipe σ vs) H1 Q) :
    EvL (tLc wi g t te vs) σ H ((ys.filter f).map v) := fun H0 e0 Q q => hi H0 e0 _ fun J H1 e1 st D hD => by
  have eD : Ex H1 (upd H1 D (.lst [])) := Ex.new hD
  have hlm : (ys.map ex).length = ys.length := List.length_map _
  refine lc_J (n := (ys.map ex).length) (fun i H2 => Ex H1 H2 ∧ H2 D = some (.lst (((ys.take i).filter f).map v))) ⟨eD, by simpa using (upd_same (H := H1) (a := D) (o := .lst []))⟩ (fun i H2 hi p => st.go i H2 p.1 hi) (fun H2 p => st.stop H2 p.1) (fun i x H2 H3 hi p y => ?_) (fun H2 p => ?_)
  · obtain ⟨p1, p2⟩ := p
    obtain ⟨rfl, hx⟩ := st.yld i H2 x H3 p1 hi y
    rw [List.getElem?_map] at hx
    obtain ⟨a, ha, rfl⟩ := Option.map_eq_some_iff.mp hx
    refine hs i a H3 ((e0.trans e1).trans p1) ha _ fun σ2 H4 e4 hw ht he => ⟨hw, ht H4 (Ex.refl H4) _ fun H5 e5 => ?_⟩
    have hlen : (((ys.take i).filter f).map v).length < sizeLine := by
      rw [List.length_map]
      have h1 := List.length_filter_le f (ys.take i)
      have h2 : (ys.take i).length = i := by rw [List.length_take]; omega
      omega
    cases hf : f a with
    | true =>
      rw [if_pos rfl]
      refine he hf H5 e5 _ fun H6 e6 => ⟨_, e6 D _ (e5 D _ (e4 D _ p2)), hlen, Ex.mut (((p1.trans e4).trans e5).trans e6) hD, ?_⟩
      rw [take_filter ha, if_pos hf]
      exact upd_same
    | false =>
      rw [if_neg (by simp)]
      refine ⟨(p1.trans e4).trans e5, ?_⟩
      rw [take_filter ha, if_neg (by simp [hf]), List.append_nil]
      exact e5 D _ (e4 D _ p2)
  · obtain ⟨p1, p2⟩ := p
    rw [hlm, List.take_length] at p2
    exact q D H2 (fresh_back e1 hD) (e1.trans p1) p2
theorem el_lc {α : Type} {ys : List α} {ex : α → V} {wi : TI} {j : Nat} {vs : List Nat} (f : α → Bool) (v : α → V) (hi : EvI wi σ H (ys.map ex)) (hz : ys.length ≤ sizeLine) (hw : ∀ x, wipe ((wipe σ vs).set j (some x)) vs = wipe σ vs)
    (ht : ∀ y, y ∈ ys → EvT t ((wipe σ vs).set j (some (ex y))) H (f y)) (he : ∀ y, y ∈ ys → f y = true → Ev te ((wipe σ vs).set j (some (ex y))) H (v y)) :
    EvL (tLc wi (gName j) t te vs) σ H ((ys.filter f).map v) :=
  el_lcP f v hi hz fun i y H1 e1 hy Q q => q _ H1 (Ex.refl H1) (hw _) ((ht y (List.mem_of_getElem? hy)).mono e1) (fun hf => (he y (List.mem_of_getElem? hy) hf).mono e1)
theorem et_yes : EvT tYes σ H true := fun H1 _ Q q => q H1 (Ex.refl H1)
theorem el_lcM {α : Type} {ys : List α} {ex : α → V} {wi : TI} {j : Nat} {vs : List Nat} (v : α → V) (hi : EvI wi σ H (ys.map ex)) (hz : ys.length ≤ sizeLine) (hw : ∀ x, wipe ((wipe σ vs).set j (some x)) vs = wipe σ vs)
    (he : ∀ y, y ∈ ys → Ev te ((wipe σ vs).set j (some (ex y))) H (v y)) : EvL (tLc wi (gName j) tYes te vs) σ H (ys.map v) := by
  have h := el_lc (fun _ => true) v hi hz hw (fun _ _ => et_yes) (fun y hy _ => he y hy)
  rw [List.filter_eq_self.mpr (fun _ _ => rfl)] at h
  exact h
theorem ev_R {sp : Sp} {vs : List V} {E : L2.St → XK} {ta : TA} (h : EvA ta σ H vs) (hs : SpV sp vs H z) : Ev (Rr.tR sp E ta) σ H z := fun H1 e Q q =>
  h H1 e _ fun H2 e2 => hs H2 (e.trans e2) Q (fun H3 e3 => q H3 (e2.trans e3)) (E σ)
theorem codes_len (z : Str) : z.cps.toList.length = z.length := Array.length_toList
theorem rc_len_str {s : Str} (h : s.length ≤ sizeLine) : RC (fun xs H Q => ∃ z, xs = [V.str z] ∧ z.length ≤ sizeLine ∧ Q (.int z.length) H) [.str s] H (.int s.length) := fun H1 _ Q q => ⟨s, rfl, h, q H1 (Ex.refl H1)⟩
theorem rc_len_l {p : Addr} {ys : List V} (h : SqL K H p ys) : RC (fun xs H Q => ∃ p ys, xs = [.ref p] ∧ (SqL K H p ys ∨ SqT K H p ys) ∧ Q (.int ys.length) H) [.ref p] H (.int ys.length) := fun H1 e Q q => ⟨p, ys, rfl, .inl (ex_l e h), q H1 (Ex.refl H1)⟩
theorem rc_len_t {p : Addr} {ys : List V} (h : SqT K H p ys) : RC (fun xs H Q => ∃ p ys, xs = [.ref p] ∧ (SqL K H p ys ∨ SqT K H p ys) ∧ Q (.int ys.length) H) [.ref p] H (.int ys.length) := fun H1 e Q q => ⟨p, ys, rfl, .inr (ex_t e h), q H1 (Ex.refl H1)⟩
theorem rc_int_str {s : Str} {n : Int} (h : PySem.intText? s = some n) (hl : s.length ≤ 640) : RC (fun xs H Q => ∃ a n, xs = [.str a] ∧ PySem.intText? a = some n ∧ a.length ≤ 640 ∧ Q (.int n) H) [.str s] H (.int n) := fun H1 _ Q q => ⟨s, n, rfl, h, hl, q H1 (Ex.refl H1)⟩
theorem rc_int_i {n : Int} : RC (fun xs H Q => (∃ i, xs = [.int i] ∧ Q (.int i) H) ∨ ∃ k, xs = [.bl k] ∧ Q (.int (if k then 1 else 0)) H) [.int n] H (.int n) := fun H1 _ Q q => .inl ⟨n, rfl, q H1 (Ex.refl H1)⟩
theorem rc_int_b {b : Bool} : RC (fun xs H Q => (∃ i, xs = [.int i] ∧ Q (.int i) H) ∨ ∃ k, xs = [.bl k] ∧ Q (.int (if k then 1 else 0)) H) [.bl b] H (.int (if b then 1 else 0)) := fun H1 _ Q q => .inr ⟨b, rfl, q H1 (Ex.refl H1)⟩
theorem rc_abs {n : Int} : RC (fun xs H Q => ∃ i, xs = [.int i] ∧ Q (.int (if i < 0 then -i else i)) H) [.int n] H (.int (if n < 0 then -n else n)) := fun H1 _ Q q => ⟨n, rfl, q H1 (Ex.refl H1)⟩
theorem rv_sign {c : Nat} {s : Str} : RV (fun x y H Q => ∃ c z, x = V.str ⟨#[c]⟩ ∧ y = V.str z ∧ Q (.bl (decide (c ∈ z.cps.toList))) H) (.str ⟨#[c]⟩) (.str s) H (.bl (decide (c ∈ s.cps.toList))) := fun H1 _ Q q => ⟨c, s, rfl, rfl, q H1 (Ex.refl H1)⟩
theorem rv_notsign {c : Nat} {s : Str} : RV (fun x y H Q => ∃ c z, x = V.str ⟨#[c]⟩ ∧ y = V.str z ∧ Q (.bl (!decide (c ∈ z.cps.toList))) H) (.str ⟨#[c]⟩) (.str s) H (.bl (!decide (c ∈ s.cps.toList))) := fun H1 _ Q q => ⟨c, s, rfl, rfl, q H1 (Ex.refl H1)⟩
theorem rv_ixS2 {w : Str} {i : Int} {c : Nat} (h : w.length ≤ sizeLine) (ha : atI w.cps.toList i = some c) : RV rIxS (.str w) (.int i) H (.str ⟨#[c]⟩) := fun H1 _ _ q => ⟨w, i, c, rfl, rfl, h, ha, q H1 (Ex.refl H1)⟩
theorem rv_adds {a b : Str} (h : a.length + b.length ≤ sizeLine) : RV (fun x y H Q => ∃ i j, x = V.str i ∧ y = V.str j ∧ i.length + j.length ≤ sizeLine ∧ Q (.str (i ++ j)) H) (.str a) (.str b) H (.str (a ++ b)) := fun H1 _ Q q => ⟨a, b, rfl, rfl, h, q H1 (Ex.refl H1)⟩
theorem ev_all {xs : List V} {bs : List Bool} (h : EvL te σ H xs) (e : xs = bs.map V.bl) : Ev (tCB (rAll K) (tCons te tNil)) σ H (.bl (bs.all id)) := fun H1 e1 Q q =>
  h H1 e1 _ fun p H2 _ e2 h2 => ⟨p, bs, rfl, by rw [← e]; exact sq_of h2, q H2 e2⟩
theorem rv_slS {w : Str} {lo hi : Option Int} (hl : w.length ≤ sizeLine) {tl th : TO} (h : Ev te σ H (.str w)) (h1 : EvO tl σ H lo) (h2 : EvO th σ H hi) : Ev (tSl rSlS te tl th) σ H (.str (cutS w lo hi)) := fun H1 e Q q =>
  h H1 e _ fun H2 e2 => h1 H2 (e.trans e2) _ fun H3 e3 => h2 H3 ((e.trans e2).trans e3) _ fun H4 e4 => ⟨w, rfl, hl, q H4 ((e2.trans e3).trans e4)⟩
def RaiseX (C : Addr) (fs : List (Str × V)) (H : Hp) (E : XK) : Prop := ∀ H' d, Ex H H' → H d = none → H' d = some (.xd fs) → E (.ref C) (some d) H'
theorem RaiseX.mono {C : Addr} {fs : List (Str × V)} {E : XK} (r : RaiseX C fs H E) (e : Ex H H') : RaiseX C fs H' E := fun H2 d e2 hd h2 => r H2 d (e.trans e2) (fresh_back e hd) h2
theorem s_raise {C : Addr} {fs : List Str} {vs : List V} {ta : TA} {Wh : XK} (h : EvA ta σ H vs) (hl : vs.length = fs.length) (k : RaiseX C (fs.zip vs).reverse H Wh) : SupX.tMkSup C fs ta σ H Wh :=
  h H (Ex.refl H) _ fun H1 e1 => ⟨hl, fun d hd => k _ d (e1.trans (Ex.new hd)) (fresh_back e1 hd) upd_same⟩
variable {D : Ends} {tb' : TE} {tb : TS} {tz : TS} {g : TG}
theorem s_forI {xs : List V} {wi : TI} (h : EvI wi σ H xs) (Pv : Hp → Nat → L2.St → Hp → Prop) (hE : ∀ H1 i σ' H', Pv H1 i σ' H' → Ex H1 H') (h0 : ∀ H1, Ex H H1 → Pv H1 0 σ H1)
    (hs : ∀ H1 i x σ' H', Ex H H1 → xs[i]? = some x → Pv H1 i σ' H' → g x σ' H' fun σ2 H2 => tb { D with nx := Pv H1 (i + 1), ct := Pv H1 (i + 1), bk := D.nx } σ2 H2) (hd : ∀ H1 σ' H', Ex H H1 → Pv H1 xs.length σ' H' → D.nx σ' H') : tFor wi g tb D σ H := by
  refine h H (Ex.refl H) _ fun J H1 e1 st => ?_
  refine for_J (n := xs.length) (Pv H1) (h0 H1 e1) (fun i σ' H' hi p => st.go i H' (hE _ _ _ _ p) hi) (fun σ' H' p => st.stop H' (hE _ _ _ _ p)) (fun i x σ' H' H'' hi p y => ?_) (fun σ' H' p => hd H1 σ' H' e1 p)
  obtain ⟨rfl, hx⟩ := st.yld i H' x H'' (hE _ _ _ _ p) hi y
  exact hs H1 i x σ' _ e1 hx p
theorem q_forI {xs : List V} {wi : TI} (h : EvI wi σ H xs) (Pv : Hp → Nat → L2.St → Hp → Prop) (hE : ∀ H1 i σ' H', Pv H1 i σ' H' → Ex H1 H') (h0 : ∀ H1, Ex H H1 → Pv H1 0 σ H1)
    (hs : ∀ H1 i x σ' H', Ex H H1 → xs[i]? = some x → Pv H1 i σ' H' → g x σ' H' fun σ2 H2 => tb { D with nx := Pv H1 (i + 1), ct := Pv H1 (i + 1), bk := tz D } σ2 H2) (hd : ∀ H1 σ' H', Ex H H1 → Pv H1 xs.length σ' H' → tz D σ' H') : tSeq (tFor wi g tb) tz D σ H :=
  s_forI (D := { D with nx := tz D }) h Pv hE h0 hs hd
theorem ex_new2 {p : Addr} {o : HO} (h : H p = none) : Ex H (upd H p o) := Ex.new h
theorem s_forE {a : Addr} {xs : List V} {ta : TA} {j1 j2 : Nat} (h : EvA ta σ H [.ref a]) (hx : SqL K H a xs) (Pv : Nat → L2.St → Hp → Prop) (h0 : ∀ H1, Ex H H1 → Pv 0 σ H1) (hl : ∀ i σ' H', i ≤ xs.length → Pv i σ' H' → SqL K H' a xs)
    (hs : ∀ i x σ' H', xs[i]? = some x → Pv i σ' H' → ∀ H2, Ex H' H2 → tb { D with nx := Pv (i + 1), ct := Pv (i + 1), bk := D.nx } ((σ'.set j1 (some (.int (i : Nat)))).set j2 (some x)) H2) (hd : ∀ σ' H', Pv xs.length σ' H' → D.nx σ' H') :
    tFor (iEnum K ta) (gTup K 2 (gCons (gName j1) (gCons (gName j2) gNil))) tb D σ H := h H (Ex.refl H) _ fun H1 e => ⟨a, xs, rfl, ex_l e hx, by
  refine for_J (n := xs.length) Pv (h0 H1 e) (fun i σ' H' hi p => ⟨xs, xs[i], hl i σ' H' (Nat.le_of_lt hi) p, by simp [hi]⟩) (fun σ' H' p => ⟨xs, hl _ σ' H' (Nat.le_refl _) p, Nat.le_refl _⟩) (fun i x σ' H' H'' hi p y => ?_) (fun σ' H' p => hd σ' H' p)
  obtain ⟨T, v, ex, hT, eH, hv⟩ := y
  subst ex eH
  have hv' := hv xs (hl i σ' H' (Nat.le_of_lt hi) p)
  exact ⟨T, [.int (i : Nat), v], rfl, st_of upd_same, rfl, _, _, rfl, _, _, rfl, rfl, hs i v σ' H' hv' p _ (Ex.new (o := .tup [.int (i : Nat), v]) hT)⟩⟩
theorem q_forE {a : Addr} {xs : List V} {ta : TA} {j1 j2 : Nat} (h : EvA ta σ H [.ref a]) (hx : SqL K H a xs) (Pv : Nat → L2.St → Hp → Prop) (h0 : ∀ H1, Ex H H1 → Pv 0 σ H1) (hl : ∀ i σ' H', i ≤ xs.length → Pv i σ' H' → SqL K H' a xs)
    (hs : ∀ i x σ' H', xs[i]? = some x → Pv i σ' H' → ∀ H2, Ex H' H2 → tb { D with nx := Pv (i + 1), ct := Pv (i + 1), bk := tz D } ((σ'.set j1 (some (.int (i : Nat)))).set j2 (some x)) H2) (hd : ∀ σ' H', Pv xs.length σ' H' → tz D σ' H') :
    tSeq (tFor (iEnum K ta) (gTup K 2 (gCons (gName j1) (gCons (gName j2) gNil))) tb) tz D σ H := s_forE (D := { D with nx := tz D }) h hx Pv h0 hl hs hd
theorem ev_isL {neg : Bool} {xs : List V} (ha : Ev ta σ H x) (hb : EvL tb' σ H xs) (hx : flatV x = true) (hf : xs.all flatV = true) : Ev (tOp (rIn K neg) ta tb') σ H (.bl (if neg then !inV x xs else inV x xs)) := ev_opL ha hb fun _ _ h _ => rv_inL (sq_of h) hx hf
def starSp (n : Nat) (sp : Sp) : Sp := fun vs H Q E => ∃ ws rest, vs = ws ++ rest ∧ ws.length = n ∧ rest.length ≤ sizeLine ∧ ∀ p, H p = Option.none → sp (ws ++ [V.ref p]) (upd H p (.tup rest)) Q E
theorem ea_star {tr : TA} {p : Addr} {xs ys : List V} (h : Ev te σ H (.ref p)) (hx : SqT K H p xs ∨ SqL K H p xs) (hr : EvA tr σ H ys) : EvA (StX.tStar K te tr) σ H (xs ++ ys) := fun H1 e Q q =>
  h H1 e _ fun H2 e2 => ⟨p, xs, rfl, hx.elim (fun z => .inl (ex_t (e.trans e2) z)) (fun z => .inr (ex_l (e.trans e2) z)), hr H2 (e.trans e2) _ fun H3 e3 => q H3 (e2.trans e3)⟩
theorem ev_fld {a C dx : Addr} {fs : List (Str × V)} {f : Str} (h : Ev te σ H (.ref a)) (ho : H a = some (.ins C dx fs)) (c : Cls K C) (n : NoAttr K C f) (hl : fs.lookup f = some v) : Ev (tFld K te f) σ H v := fun H1 e Q q =>
  h H1 e _ fun H2 e2 => ⟨a, C, dx, fs, v, rfl, e2 a _ (e a _ ho), c, n, hl, q H2 e2⟩
theorem s_fld {tv to : TE} {a C dx : Addr} {fs : List (Str × V)} {f : Str} (hv : Ev tv σ H v) (ho : Ev to σ H (.ref a)) (h : H a = some (.ins C dx fs)) (c : Cls K C) (n : NoAttr K C f) (hl : fs.length < 1000) (k : ∀ H1, Ex H H1 → D.nx σ (upd H1 a (.ins C dx (putF f v fs)))) : sFld K to tv f D σ H :=
  hv H (Ex.refl H) _ fun H1 e1 => ho H1 e1 _ fun H2 e2 => ⟨a, C, dx, fs, rfl, e2 a _ (e1 a _ h), c, n, hl, k H2 (e1.trans e2)⟩
theorem s_fldG {tv to : TE} {f : Str} (h : tv σ H fun y H1 => ∃ a C dx fs, Ev to σ H1 (.ref a) ∧ H1 a = some (.ins C dx fs) ∧ Cls K C ∧ NoAttr K C f ∧ fs.length < 1000 ∧ ∀ H2, Ex H1 H2 → D.nx σ (upd H2 a (.ins C dx (putF f y fs)))) (hm : ∀ Q Q' : VK, (∀ v H, Q v H → Q' v H) → tv σ H Q → tv σ H Q') : sFld K to tv f D σ H :=
  hm _ _ (fun y H1 ⟨a, C, dx, fs, ho, e, c, n, hl, k⟩ => ho H1 (Ex.refl H1) _ fun H2 e2 => ⟨a, C, dx, fs, rfl, e2 a _ e, c, n, hl, k H2 e2⟩) h
theorem s_fldaug {tv to : TE} {a C dx : Addr} {fs : List (Str × V)} {f : Str} {rd : V → V → Hp → VK → Prop} {x : V} (ho : Ev to σ H (.ref a)) (h : H a = some (.ins C dx fs)) (c : Cls K C) (n : NoAttr K C f) (hl : fs.lookup f = some x) (hv : Ev tv σ H y) (hr : RV rd x y H z) (hz : fs.length < 1000)
    (k : ∀ H1, Ex H H1 → D.nx σ (upd H1 a (.ins C dx (putF f z fs)))) : sFldAug K to tv rd f D σ H :=
  ho H (Ex.refl H) _ fun H1 e1 => ⟨a, C, dx, fs, x, rfl, e1 a _ h, c, n, hl, hv H1 e1 _ fun H2 e2 => hr H2 (e1.trans e2) _ fun H3 e3 => ⟨dx, fs, e3 a _ (e2 a _ (e1 a _ h)), hz, k H3 ((e1.trans e2).trans e3)⟩⟩
theorem call_R {sp : Sp} {vs : List V} {E : L2.St → XK} {ta : TA} {Q : VK} (h : EvA ta σ H vs) (k : ∀ H1, Ex H H1 → sp vs H1 Q (E σ)) : Rr.tR sp E ta σ H Q := h H (Ex.refl H) _ fun H1 e => k H1 e
theorem call_mR {sp : Sp} {vs : List V} {E : L2.St → XK} {to : TE} {ta : TA} {Q : VK} {a C dx : Addr} {fs : List (Str × V)} {m : Str} (ho : Ev to σ H (.ref a)) (hh : H a = some (.ins C dx fs)) (hl : fs.lookup m = none) (h : EvA ta σ H vs) (k : ∀ H1, Ex H H1 → sp (.ref a :: vs) H1 Q (E σ)) : Rr.tMR C m sp E to ta σ H Q :=
  ho H (Ex.refl H) _ fun H1 e1 => ⟨a, dx, fs, rfl, e1 a _ hh, hl, h H1 e1 _ fun H2 e2 => k H2 (e1.trans e2)⟩
theorem call_kR {sp : Sp} {vs : List V} {E : L2.St → XK} {ta : TA} {Q : VK} {C : Addr} (h : EvA ta σ H vs) (k : ∀ H1 x dx, Ex H H1 → H1 x = none → H1 dx = none → dx ≠ x → sp (.ref x :: vs) (upd (upd H1 dx (.own x)) x (.ins C dx [])) (fun v H2 => v = .non ∧ Q (.ref x) H2) (E σ)) : Rr.tKR C sp E ta σ H Q :=
  h H (Ex.refl H) _ fun H1 e x dx hx hd hn => k H1 x dx e hx hd hn
theorem call_nR {sp : Sp} {vs zs : List V} {E : L2.St → XK} {ta tk : TA} {Q : VK} {n m : Nat} (h : EvA ta σ H vs) (hk : EvA tk σ H zs) (l1 : vs.length = n) (l2 : zs.length = m) (k : ∀ H1, Ex H H1 → sp (vs ++ zs) H1 Q (E σ)) : Rr.tNR sp E n m ta tk σ H Q :=
  h H (Ex.refl H) _ fun H1 e => hk H1 e _ fun H2 e2 => ⟨l1, l2, k H2 (e.trans e2)⟩
theorem ev_mR {sp : Sp} {vs : List V} {E : L2.St → XK} {to : TE} {ta : TA} {a C dx : Addr} {fs : List (Str × V)} {m : Str} (ho : Ev to σ H (.ref a)) (hh : H a = some (.ins C dx fs)) (hl : fs.lookup m = none) (h : EvA ta σ H vs) (hs : SpV sp (.ref a :: vs) H z) : Ev (Rr.tMR C m sp E to ta) σ H z := fun H1 e Q q =>
  ho H1 e _ fun H2 e2 => ⟨a, dx, fs, rfl, e2 a _ (e a _ hh), hl, h H2 (e.trans e2) _ fun H3 e3 => hs H3 ((e.trans e2).trans e3) Q (fun H4 e4 => q H4 ((e2.trans e3).trans e4)) (E σ)⟩
theorem ev_fmt {s : Str} (h : Ev te σ H (.str s)) (hz : s.length ≤ sizeLine) : Ev (tFmt te) σ H (.str s) := fun H1 e Q q => h H1 e _ fun H2 e2 => .inl ⟨s, rfl, hz, q H2 e2⟩
theorem emp_app (a : Str) : Str.empty ++ a = a := by
  obtain ⟨c⟩ := a
  show (⟨#[] ++ c⟩ : Str) = ⟨c⟩
  rw [Array.empty_append]
theorem ev_js2 {a b : Str} (ha : Ev ta σ H (.str a)) (hb : Ev tx σ H (.str b)) (hz : a.length + b.length ≤ sizeLine) : Ev (fun σ H Q => tJs [ta, tx] Str.empty σ H fun out H1 => Q (.str out) H1) σ H (.str (a ++ b)) := fun H1 e Q q =>
  ha H1 e _ fun H2 e2 => ⟨a, rfl, by rw [emp_app]; omega, hb H2 (e.trans e2) _ fun H3 e3 => ⟨b, rfl, by rw [emp_app]; show (a.cps ++ b.cps).size ≤ _; rw [Array.size_append]; exact hz, by
    show Q (.str ((Str.empty ++ a) ++ b)) H3
    rw [emp_app]
    exact q H3 (e2.trans e3)⟩⟩
theorem q_asgG {i : Nat} (h : te σ H fun v H1 => tz D (σ.set i (some v)) H1) : tSeq (tAsg te (gName i)) tz D σ H := h
theorem s_asgG {i : Nat} (h : te σ H fun v H1 => D.nx (σ.set i (some v)) H1) : tAsg te (gName i) D σ H := h
theorem q_dropG (h : te σ H fun _ H1 => tz D σ H1) : tSeq (tDrop te) tz D σ H := h
theorem s_dropG (h : te σ H fun _ H1 => D.nx σ H1) : tDrop te D σ H := h
theorem s_retG (h : te σ H D.rt) : tRet te D σ H := h
theorem q_seq {tu : TS} (h : tu { D with nx := tz D } σ H) : tSeq tu tz D σ H := h
def Exr (r : Addr) (H H' : Hp) : Prop := ∀ a o, a ≠ r → H a = some o → H' a = some o
theorem Exr.refl (r : Addr) (H : Hp) : Exr r H H := fun _ _ _ h => h
theorem Exr.trans {r : Addr} {H H1 H2 : Hp} (a : Exr r H H1) (b : Exr r H1 H2) : Exr r H H2 := fun x o n h => b x o n (a x o n h)
theorem Ex.toR {r : Addr} {H H' : Hp} (e : Ex H H') : Exr r H H' := fun x o _ h => e x o h
theorem Exr.upd {r : Addr} {H H' : Hp} {o : HO} (e : Exr r H H') : Exr r H (upd H' r o) := fun x u n h => by rw [upd_ne n]; exact e x u n h
theorem Exr.fresh {r a : Addr} {H H' : Hp} (e : Exr r H H') (hr : a ≠ r) (h : H' a = none) : H a = none := by
  cases q : H a with
  | none => rfl
  | some o => rw [e a o hr q] at h; cases h
theorem Exr.toEx {r : Addr} {H0 H H' : Hp} (e0 : Ex H0 H) (hr : H0 r = none) (e : Exr r H H') : Ex H0 H' := fun x o h => e x o (ne_of_none h hr) (e0 x o h)
def RaiseXr (r C : Addr) (fs : List (Str × V)) (H : Hp) (E : XK) : Prop := ∀ H' d, Exr r H H' → d ≠ r → H d = none → H' d = some (.xd fs) → E (.ref C) (some d) H'
theorem RaiseXr.mono {r C : Addr} {fs : List (Str × V)} {E : XK} (k : RaiseXr r C fs H E) (e : Exr r H H') : RaiseXr r C fs H' E := fun H2 d e2 hd hn h2 => k H2 d (e.trans e2) hd (e.fresh hd hn) h2
theorem RaiseXr.plain {r C : Addr} {fs : List (Str × V)} {E : XK} {o : HO} (k : RaiseXr r C fs H E) (hr : H r = some o) : RaiseX C fs H E := fun H2 d e hd h2 => k H2 d (Ex.toR e) (fun z => by rw [z, hr] at hd; cases hd) hd h2
def Rows (H : Hp) (l : Addr) (rows : List (List Str)) : Prop := ∃ as : List Addr, H l = some (.lst (as.map V.ref)) ∧ as.length = rows.length ∧ ∀ (i : Nat) a ws, as[i]? = some a → rows[i]? = some ws → H a = some (.lst (ws.map V.str))
theorem Rows.ex {l : Addr} {rows : List (List Str)} (h : Rows H l rows) (e : Ex H H') : Rows H' l rows := by
  obtain ⟨as, h1, h2, h3⟩ := h
  exact ⟨as, e l _ h1, h2, fun i a ws ha hw => e a _ (h3 i a ws ha hw)⟩
theorem Rows.exr {r l C dx : Addr} {fs : List (Str × V)} {rows : List (List Str)} (h : Rows H l rows) (hr : H r = some (.ins C dx fs)) (e : Exr r H H') : Rows H' l rows := by
  obtain ⟨as, h1, h2, h3⟩ := h
  exact ⟨as, e l _ (ne_of h1 hr (by simp)) h1, h2, fun i a ws ha hw => e a _ (ne_of (h3 i a ws ha hw) hr (by simp)) (h3 i a ws ha hw)⟩
theorem Rows.get {l : Addr} {rows : List (List Str)} {i : Nat} {ws : List Str} (h : Rows H l rows) (hi : rows[i]? = some ws) : ∃ (as : List Addr) (a : Addr), H l = some (.lst (as.map V.ref)) ∧ as.length = rows.length ∧ as[i]? = some a ∧ H a = some (.lst (ws.map V.str)) := by
  obtain ⟨as, h1, h2, h3⟩ := h
  have hlt := (List.getElem?_eq_some_iff.mp hi).1
  have ha : as[i]? = some (as[i]'(by omega)) := List.getElem?_eq_getElem (by omega)
  exact ⟨as, _, h1, h2, ha, h3 i _ ws ha hi⟩
theorem rc_isi {x c : V} {t u : Value} {b : Bool} (k : ClsV c u) (ty : TyX K H x t) (hk : PySem.W.kitOne K t u = some b) (hm : ∀ H1, Ex H H1 → TyX K H1 x t) : RC (rIsi K) [x, c] H (.bl b) := fun H1 e Q q => ⟨x, c, t, u, b, rfl, k, hm H1 e, hk, q H1 (Ex.refl H1)⟩
theorem rc_isi_ii {i : Int} : RC (rIsi K) [.int i, .ty "int"] H (.bl true) := rc_isi (.ty _) (.base (.int i)) (kit_ty (by decide +kernel)) fun _ _ => .base (.int i)
theorem rc_isi_ib {i : Int} : RC (rIsi K) [.int i, .ty "bool"] H (.bl false) := rc_isi (.ty _) (.base (.int i)) (kit_ty (by decide +kernel)) fun _ _ => .base (.int i)
theorem rc_isi_ss {s : Str} : RC (rIsi K) [.str s, .ty "str"] H (.bl true) := rc_isi (.ty _) (.base (.str s)) (kit_ty (by decide +kernel)) fun _ _ => .base (.str s)
theorem ev_chain {r' : R2} {tc : TE} {w : V} {a b : Bool} (ha : Ev ta σ H x) (hb : Ev tx σ H y) (hr : RV r x y H (.bl a)) (hc : a = true → Ev tc σ H w) (hr' : a = true → RV r' y w H (.bl b)) : Ev (tChain r r' ta tx tc) σ H (.bl (a && b)) := fun H1 e Q q =>
  ha H1 e _ fun H2 e2 => hb H2 (e.trans e2) _ fun H3 e3 => hr H3 ((e.trans e2).trans e3) _ fun H4 e4 => ⟨a, rfl, by
    have e14 := (e2.trans e3).trans e4
    cases a with
    | true =>
      rw [if_pos rfl]
      exact hc rfl H4 (e.trans e14) _ fun H5 e5 => hr' rfl H5 ((e.trans e14).trans e5) Q fun H6 e6 => q H6 ((e14.trans e5).trans e6)
    | false =>
      rw [if_neg Bool.false_ne_true]
      exact q H4 e14⟩
theorem ev_cval {C : Addr} {mc : Value} {f : Str} {u : Value} (h : Ev te σ H (.ref C)) (r : ClX.CRead K C mc) (k : ClX.CVal K C mc f v u) : Ev (ClX.tCVal K te f) σ H v := fun H1 e Q q => h H1 e _ fun H2 e2 => ⟨C, mc, v, u, rfl, r, k, q H2 e2⟩
theorem rc_lenD {a : Addr} {kvs : List (Key × V)} (h : H a = some (.dK kvs)) : RC (fun xs H Q => ∃ a kvs, xs = [V.ref a] ∧ H a = some (.dK kvs) ∧ Q (.int kvs.length) H) [.ref a] H (.int kvs.length) := fun H1 e Q q => ⟨a, kvs, rfl, e a _ h, q H1 (Ex.refl H1)⟩
def ExS (S : Addr → Prop) (H H' : Hp) : Prop := ∀ a o, ¬ S a → H a = some o → H' a = some o
theorem ExS.refl (S : Addr → Prop) (H : Hp) : ExS S H H := fun _ _ _ h => h
theorem ExS.trans {S : Addr → Prop} {H H1 H2 : Hp} (a : ExS S H H1) (b : ExS S H1 H2) : ExS S H H2 := fun x o n h => b x o n (a x o n h)
theorem Ex.toS {S : Addr → Prop} {H H' : Hp} (e : Ex H H') : ExS S H H' := fun x o _ h => e x o h
theorem ExS.ex {S : Addr → Prop} {H H1 H2 : Hp} (a : ExS S H H1) (b : Ex H1 H2) : ExS S H H2 := fun x o n h => b x o (a x o n h)
theorem ExS.mut {S : Addr → Prop} {H H' : Hp} {r : Addr} {o : HO} (e : ExS S H H') (h : S r ∨ H r = none) : ExS S H (upd H' r o) := fun a u n ha => by
  have hne : a ≠ r := by
    rintro rfl
    rcases h with h | h
    · exact n h
    · rw [h] at ha; cases ha
  rw [upd_ne hne]
  exact e a u n ha
theorem ExS.sub {S S' : Addr → Prop} {H H' H2 : Hp} (e : ExS S H H') (e2 : ExS S' H' H2) (h : ∀ a, S' a → S a ∨ H a = none) : ExS S H H2 := fun a o n ha => e2 a o (fun z => by
  rcases h a z with q | q
  · exact n q
  · rw [q] at ha; cases ha) (e a o n ha)
theorem ExS.toEx {H H' : Hp} {S : Addr → Prop} (e : ExS S H H') (h : ∀ a, S a → H a = none) : Ex H H' := fun a o ha => e a o (fun z => by rw [h a z] at ha; cases ha) ha
abbrev noS : Addr → Prop := fun _ => False
abbrev oneA (r : Addr) : Addr → Prop := fun a => a = r
theorem q_dropU {te : TE} (h : te σ H fun _ H1 => tz D σ H1) : tSeq (tDrop te) tz D σ H := h
end
open PySem PySem.Spec PyProof.Rows L2 Evl
theorem valV_mem {kvs : List (Key × V)} {k : Key} {v : V} (h : valV kvs k = some v) : (k, v) ∈ kvs := by
  unfold valV at h
  obtain ⟨q, hq, rfl⟩ := Option.map_eq_some_iff.mp h
  have h1 := List.find?_some hq
  have h2 := List.mem_of_find?_eq_some hq
  have e : q.1 = k := of_decide_eq_true h1
  rw [← e]
  exact h2
theorem valV_of_mem {kvs : List (Key × V)} {q : Key × V} (h : q ∈ kvs) : ∃ v, valV kvs q.1 = some v := by
  unfold valV
  cases e : kvs.find? fun kv => decide (kv.1 = q.1) with
  | some r => exact ⟨r.2, rfl⟩
  | none => exact absurd (decide_eq_true rfl) (List.find?_eq_none.mp e q h)
theorem mem_putKey {kvs : List (Key × V)} {k : Key} {v : V} {q : Key × V} (h : q ∈ putK kvs k v) : q ∈ kvs ∨ q = (k, v) := by
  unfold putK at h
  split at h
  · obtain ⟨p, hp, e⟩ := List.mem_map.mp h
    by_cases hk : p.1 = k
    · rw [if_pos hk] at e
      exact .inr (by rw [← e, hk])
    · rw [if_neg hk] at e
      exact .inl (by rw [← e]; exact hp)
  · rcases List.mem_append.mp h with h | h
    · exact .inl h
    · exact .inr (by simpa using h)
theorem choose_list {α β : Type} {P : α → β → Prop} : ∀ {xs : List α}, (∀ x ∈ xs, ∃ y, P x y) → ∃ zs : List (α × β), zs.map (·.1) = xs ∧ ∀ z ∈ zs, P z.1 z.2
  | [], _ => ⟨[], rfl, fun z h => by simp at h⟩
  | x :: xs, h => by
    obtain ⟨y, hy⟩ := h x (List.mem_cons_self ..)
    obtain ⟨zs, e, hz⟩ := choose_list (xs := xs) fun a ha => h a (List.mem_cons_of_mem _ ha)
    refine ⟨(x, y) :: zs, by rw [List.map_cons, e], fun z hm => ?_⟩
    rcases List.mem_cons.mp hm with rfl | hm
    · exact hy
    · exact hz z hm
def madeK (ps : List (Key × V)) : List (Key × V) := ps.foldl (fun d p => putK d p.1 p.2) []
theorem madeK_snoc (ps : List (Key × V)) (p : Key × V) : madeK (ps ++ [p]) = putK (madeK ps) p.1 p.2 := by
  unfold madeK
  rw [List.foldl_append]
  rfl
theorem madeK_len : ∀ (ps : List (Key × V)), (madeK ps).length ≤ ps.length := fun ps => by
  generalize hn : ps.length = n
  induction n generalizing ps with
  | zero =>
    have : ps = [] := List.length_eq_zero_iff.mp hn
    subst this
    exact Nat.le_refl _
  | succ n ih =>
    have hne : ps ≠ [] := fun z => by rw [z] at hn; cases hn
    have e := List.dropLast_concat_getLast hne
    rw [← e, madeK_snoc]
    have h1 := ih ps.dropLast (by rw [List.length_dropLast, hn]; rfl)
    have h2 := length_putK (madeK ps.dropLast) (ps.getLast hne).1 (ps.getLast hne).2
    omega
theorem madeK_val (k : Key) : ∀ (ps : List (Key × V)), valV (madeK ps) k = ((ps.reverse.find? fun p => decide (p.1 = k)).map (·.2)) := fun ps => by
  generalize hn : ps.length = n
  induction n generalizing ps with
  | zero =>
    have : ps = [] := List.length_eq_zero_iff.mp hn
    subst this
    rfl
  | succ n ih =>
    have hne : ps ≠ [] := fun z => by rw [z] at hn; cases hn
    have e := List.dropLast_concat_getLast hne
    rw [← e, madeK_snoc, valV_put, List.reverse_append, ih ps.dropLast (by rw [List.length_dropLast, hn]; rfl)]
    by_cases h : k = (ps.getLast hne).1
    · rw [if_pos h]
      simp [List.find?_cons, h]
    · rw [if_neg h]
      have h' : ¬ (ps.getLast hne).1 = k := fun z => h z.symm
      simp [List.find?_cons, h']
theorem madeK_there {ps : List (Key × V)} {p : Key × V} (h : p ∈ ps) : ∃ v, valV (madeK ps) p.1 = some v ∧ (p.1, v) ∈ ps := by
  rw [madeK_val]
  cases e : ps.reverse.find? fun q => decide (q.1 = p.1) with
  | none => exact absurd (decide_eq_true rfl) (List.find?_eq_none.mp e p (List.mem_reverse.mpr h))
  | some r =>
    have h0 := List.find?_some e
    have h1 : r.1 = p.1 := of_decide_eq_true h0
    have h2 := List.mem_reverse.mp (List.mem_of_find?_eq_some e)
    refine ⟨r.2, rfl, ?_⟩
    rw [← h1]
    exact h2
theorem madeK_from {ps : List (Key × V)} {k : Key} {v : V} (h : valV (madeK ps) k = some v) : (k, v) ∈ ps := by
  rw [madeK_val] at h
  obtain ⟨r, hr, rfl⟩ := Option.map_eq_some_iff.mp h
  have h0 := List.find?_some hr
  have h1 : r.1 = k := of_decide_eq_true h0
  have h2 := List.mem_reverse.mp (List.mem_of_find?_eq_some hr)
  rw [← h1]
  exact h2
theorem mem_madeKn : ∀ (n : Nat) {ps : List (Key × V)} {q : Key × V}, ps.length = n → q ∈ madeK ps → q ∈ ps
  | 0, ps, q, hn, h => by
    have : ps = [] := List.length_eq_zero_iff.mp hn
    subst this
    exact h
  | n + 1, ps, q, hn, h => by
    have hne : ps ≠ [] := fun z => by rw [z] at hn; cases hn
    have e := List.dropLast_concat_getLast hne
    rw [← e, madeK_snoc] at h
    unfold putK at h
    rw [← e]
    have hl : ps.dropLast.length = n := by rw [List.length_dropLast, hn]; rfl
    split at h
    · obtain ⟨r, hr, er⟩ := List.mem_map.mp h
      by_cases hk : r.1 = (ps.getLast hne).1
      · rw [if_pos hk] at er
        exact List.mem_append_right _ (by rw [← er, hk]; simp)
      · rw [if_neg hk] at er
        rw [← er]
        exact List.mem_append_left _ (mem_madeKn n hl hr)
    · rcases List.mem_append.mp h with h | h
      · exact List.mem_append_left _ (mem_madeKn n hl h)
      · exact List.mem_append_right _ (by simpa using h)
theorem mem_madeK {ps : List (Key × V)} {q : Key × V} (h : q ∈ madeK ps) : q ∈ ps := mem_madeKn _ rfl h
section
variable {K : PySem.W.Frag} {σ : L2.St} {H H' : Hp} {ta tb te tx : TE} {t u : TT} {x y z v : V} {r : R2} {D : Ends} {tz : TS}
theorem rd_of {a : Addr} {o : HO} (h : H a = some o) : Rd H a o := .inl h
theorem ev_dget {a : Addr} {kvs : List (Key × V)} {k : Key} (h1 : Ev ta σ H (.ref a)) (h2 : Ev tb σ H (kV k)) (hd : Rd H a (.dK kvs)) (hv : valV kvs k = some v) : Ev (tDGet ta tb) σ H v := fun H1 e Q q =>
  h1 H1 e _ fun H2 e2 => h2 H2 (e.trans e2) _ fun H3 e3 => ⟨a, v, rfl, .inl ⟨kvs, k, ex_rd ((e.trans e2).trans e3) hd, rfl, hv.symm⟩, q H3 (e2.trans e3)⟩
theorem ev_din {a : Addr} {kvs : List (Key × V)} {k : Key} (h1 : Ev ta σ H (kV k)) (h2 : Ev tb σ H (.ref a)) (hd : Rd H a (.dK kvs)) : Ev (tDIn ta tb) σ H (.bl (valV kvs k).isSome) := fun H1 e Q q =>
  h1 H1 e _ fun H2 e2 => h2 H2 (e.trans e2) _ fun H3 e3 => ⟨a, valV kvs k, rfl, .inl ⟨kvs, k, ex_rd ((e.trans e2).trans e3) hd, rfl, rfl⟩, q H3 (e2.trans e3)⟩
theorem ev_dnin {a : Addr} {kvs : List (Key × V)} {k : Key} (h1 : Ev ta σ H (kV k)) (h2 : Ev tb σ H (.ref a)) (hd : Rd H a (.dK kvs)) : Ev (tDNotIn ta tb) σ H (.bl (!(valV kvs k).isSome)) := fun H1 e Q q =>
  h1 H1 e _ fun H2 e2 => h2 H2 (e.trans e2) _ fun H3 e3 => ⟨a, valV kvs k, rfl, .inl ⟨kvs, k, ex_rd ((e.trans e2).trans e3) hd, rfl, rfl⟩, q H3 (e2.trans e3)⟩
theorem ei_k {d : Addr} {o : Obj} {kvs : List (Key × V)} (h : Ev te σ H (.ref d)) (hd : H d = some (.frz o (.dK kvs))) : EvI (iKeys te) σ H (kvs.map fun q => kV q.1) := fun H1 e R q => h H1 e _ fun H2 e2 => ⟨d, o, rfl, .inl ⟨kvs, e2 d _ (e d _ hd), q _ H2 e2 {
  go := fun i H3 e3 hi => ⟨e3 d _ (e2 d _ (e d _ hd)), by simpa using hi⟩
  stop := fun H3 e3 => ⟨e3 d _ (e2 d _ (e d _ hd)), by simp⟩
  yld := fun i H3 x H4 e3 hi y => by
    obtain ⟨e4, k, v, hk, rfl⟩ := y
    exact ⟨e4, by rw [List.getElem?_map, hk]; rfl⟩ }⟩⟩
def EvD (te : TE) (σ : L2.St) (H : Hp) (kvs : List (Key × V)) : Prop := ∀ H1, Ex H H1 → ∀ Q : VK, (∀ p H2, H1 p = none → Ex H1 H2 → H2 p = some (.dK kvs) → Q (.ref p) H2) → te σ H1 Q
theorem el_dc {α : Type} {ys : List α} {ex : α → V} {wi : TI} {j : Nat} {vs : List Nat} {tk tv : TE} (k : α → Key) (v : α → V) (hi : EvI wi σ H (ys.map ex)) (hz : ys.length < sizeLine) (hw : ∀ x, wipe ((wipe σ vs).set j (some x)) vs = wipe σ vs)
    (hk : ∀ y, y ∈ ys → Ev tk ((wipe σ vs).set j (some (ex y))) H (kV (k y))) (hv : ∀ y, y ∈ ys → Ev tv ((wipe σ vs).set j (some (ex y))) H (v y)) : EvD (tDc wi (gName j) tYes tk tv vs) σ H (madeK (ys.map fun y => (k y, v y))) := fun H0 e0 Q q => hi H0 e0 _ fun J H1 e1 st D hD => by
  have eD : Ex H1 (upd H1 D (.dK [])) := Ex.new hD
  have hlm : (ys.map ex).length = ys.length := List.length_map _
  refine dc_J (n := (ys.map ex).length) (fun i H2 => Ex H1 H2 ∧ H2 D = some (.dK (madeK ((ys.take i).map fun y => (k y, v y))))) ⟨eD, (show upd H1 D (.dK []) D = some (.dK (madeK [])) from upd_same)⟩ (fun i H2 hi p => st.go i H2 p.1 hi) (fun H2 p => st.stop H2 p.1) (fun i x H2 H3 hi p y => ?_) (fun H2 p => ?_)
  · obtain ⟨p1, p2⟩ := p
    obtain ⟨rfl, hx⟩ := st.yld i H2 x H3 p1 hi y
    rw [List.getElem?_map] at hx
    obtain ⟨a, ha, rfl⟩ := Option.map_eq_some_iff.mp hx
    have hm := List.mem_of_getElem? ha
    refine ⟨hw _, ?_⟩
    refine (et_yes (σ := ((wipe σ vs).set j (some (ex a)))) (H := H3)) H3 (Ex.refl H3) _ fun H4 e4 => ?_
    rw [if_pos rfl]
    have e04 := ((e0.trans e1).trans p1).trans e4
    refine hk a hm H4 e04 _ fun H5 e5 => hv a hm H5 (e04.trans e5) _ fun H6 e6 => ⟨_, k a, rfl, e6 D _ (e5 D _ (e4 D _ p2)), ?_, Ex.mut (((p1.trans e4).trans e5).trans e6) hD, ?_⟩
    · have h1 := madeK_len ((ys.take i).map fun y => (k y, v y))
      rw [List.length_map, List.length_take] at h1
      omega
    · rw [List.take_add_one, ha]
      show upd H6 D _ D = some (.dK (madeK ((ys.take i ++ [a]).map fun y => (k y, v y))))
      rw [List.map_append, List.map_cons, List.map_nil, madeK_snoc]
      exact upd_same
  · obtain ⟨p1, p2⟩ := p
    rw [hlm, List.take_length] at p2
    exact q D H2 (fresh_back e1 hD) (e1.trans p1) p2
theorem q_asgD {i : Nat} {kvs : List (Key × V)} (h : EvD te σ H kvs) (k : ∀ p H1, H p = none → Ex H H1 → H1 p = some (.dK kvs) → tz D (σ.set i (some (.ref p))) H1) : tSeq (tAsg te (gName i)) tz D σ H := h H (Ex.refl H) _ fun p H1 hp e h1 => k p H1 hp e h1
theorem s_fldX {tv to : TE} {f : Str} (h : tv σ H fun y H1 => ∃ a C dx fs, Ev to σ H1 (.ref a) ∧ H1 a = some (.ins C dx fs) ∧ Cls K C ∧ NoAttr K C f ∧ fs.length < 1000 ∧ ∀ H2, Ex H1 H2 → D.nx σ (upd H2 a (.ins C dx (putF f y fs)))) (hm : ∀ Q Q' : VK, (∀ v H, Q v H → Q' v H) → tv σ H Q → tv σ H Q') : sFld K to tv f D σ H :=
  hm _ _ (fun y H1 ⟨a, C, dx, fs, ho, e, c, n, hl, k⟩ => ho H1 (Ex.refl H1) _ fun H2 e2 => ⟨a, C, dx, fs, rfl, e2 a _ e, c, n, hl, k H2 e2⟩) h
theorem s_fldN {tv to : TE} {f : Str} {a C dx : Addr} {fs : List (Str × V)} {o : HO} (hv : ∀ Q : VK, (∀ p H1, H p = none → Ex H H1 → H1 p = some o → Q (.ref p) H1) → tv σ H Q) (ho : Ev to σ H (.ref a)) (h : H a = some (.ins C dx fs)) (c : Cls K C) (n : NoAttr K C f) (hl : fs.length < 1000)
    (k : ∀ p H1, H p = none → Ex H H1 → H1 p = some o → D.nx σ (upd H1 a (.ins C dx (putF f (.ref p) fs)))) : sFld K to tv f D σ H :=
  hv _ fun p H1 hp e1 h1 => ho H1 e1 _ fun H2 e2 => ⟨a, C, dx, fs, rfl, e2 a _ (e1 a _ h), c, n, hl, k p H2 hp (e1.trans e2) (e2 p _ h1)⟩
theorem lenSet_any {p : Addr} {xs : List Str} {Q : VK} (h : Ev te σ H (.ref p)) (hp : SqL K H p (xs.map V.str)) (hl : xs.length < 1000) (k : ∀ (c : Nat) H1, Ex H H1 → Q (.int c) H1) : Ru.tLenSetS K te σ H Q :=
  h H (Ex.refl H) _ fun H1 e1 => ⟨p, xs, rfl, ex_l e1 hp, hl, fun c _ => k c H1 e1⟩
theorem op_any {Q : VK} (h : ta σ H fun x H1 => tb σ H1 fun y H2 => r x y H2 Q) : tOp r ta tb σ H Q := h
theorem ev_go {Q : VK} (h : Ev te σ H v) (k : ∀ H1, Ex H H1 → Q v H1) : te σ H Q := h H (Ex.refl H) Q k
theorem q_whenA {te : TE} {tu : TS} (h : te σ H fun v H1 => ∃ b, v = .bl b ∧ (if b = true then tu { D with nx := tz D } σ H1 else tz D σ H1)) : tSeq (tIfS (tB te) tu tNext) tz D σ H := h
theorem fld_end {to : TE} {f : Str} {a C dx : Addr} {fs : List (Str × V)} (ho : Ev to σ H (.ref a)) (h : H a = some (.ins C dx fs)) (c : Cls K C) (n : NoAttr K C f) (hl : fs.length < 1000) (k : ∀ H1, Ex H H1 → D.nx σ (upd H1 a (.ins C dx (putF f y fs)))) :
    to σ H fun x H2 => ∃ a C dx fs, x = .ref a ∧ H2 a = some (.ins C dx fs) ∧ Cls K C ∧ NoAttr K C f ∧ fs.length < 1000 ∧ D.nx σ (upd H2 a (.ins C dx (putF f y fs))) :=
  ho H (Ex.refl H) _ fun H1 e1 => ⟨a, C, dx, fs, rfl, e1 a _ h, c, n, hl, k H1 e1⟩
theorem fld_any {tv to : TE} {f : Str} (h : tv σ H fun y H1 => to σ H1 fun x H2 => ∃ a C dx fs, x = .ref a ∧ H2 a = some (.ins C dx fs) ∧ Cls K C ∧ NoAttr K C f ∧ fs.length < 1000 ∧ D.nx σ (upd H2 a (.ins C dx (putF f y fs)))) : sFld K to tv f D σ H := h
theorem gN {i : Nat} {Q : L2.St → Hp → Prop} (h : Q (σ.set i (some v)) H) : gName i v σ H Q := h
def keyI : Key → Int
  | .inl i => i
  | .inr _ => 0
def IntKeys (kvs : List (Key × V)) : Prop := ∀ q ∈ kvs, ∃ i : Int, q.1 = .inl i
theorem keys_ints {kvs : List (Key × V)} (h : IntKeys kvs) : (kvs.map fun q => kV q.1) = (kvs.map fun q => keyI q.1).map V.int := by
  rw [List.map_map]
  refine List.map_congr_left fun q hq => ?_
  obtain ⟨i, e⟩ := h q hq
  show kV q.1 = V.int (keyI q.1)
  rw [e]
  rfl
theorem el_listD {d : Addr} {kvs : List (Key × V)} (h : Ev te σ H (.ref d)) (hd : Rd H d (.dK kvs)) : EvL (tCB (fun xs H Q => ∃ (a : Addr) (kvs : List (Key × V)), xs = [V.ref a] ∧ Rd H a (.dK kvs) ∧ ∀ p, H p = none → Q (.ref p) (upd H p (.lst (kvs.map fun kv => kV kv.1)))) (tCons te tNil)) σ H (kvs.map fun q => kV q.1) := fun H1 e Q q =>
  h H1 e _ fun H2 e2 => ⟨d, kvs, rfl, ex_rd (e.trans e2) hd, fun p hp => q p _ (fresh_back e2 hp) (e2.trans (Ex.new hp)) upd_same⟩
theorem sorted_any {ns : List Int} {Q : VK} (h : EvL te σ H (ns.map V.int)) (k : ∀ (ns' : List Int) p H2, ns'.Perm ns → H p = none → Ex H H2 → H2 p = some (.lst (ns'.map V.int)) → Q (.ref p) H2) : tCB (rSortedI K) (tCons te tNil) σ H Q :=
  h H (Ex.refl H) _ fun l H1 _ e1 h1 => ⟨l, ns, rfl, sq_of h1, fun ns' p hperm _ hp => k ns' p _ hperm (fresh_back e1 hp) (e1.trans (Ex.new hp)) upd_same⟩
theorem call_oR {sp : Sp} {vs : List V} {E : L2.St → XK} {tf : TE} {ta : TA} {Q : VK} {a C dx : Addr} {fs : List (Str × V)} (hf : Ev tf σ H (.ref a)) (ho : H a = some (.ins C dx fs)) (h : EvA ta σ H vs) (k : ∀ H1, Ex H H1 → sp (.ref a :: vs) H1 Q (E σ)) : Rr.tOR C sp E tf ta σ H Q :=
  hf H (Ex.refl H) _ fun H1 e1 => ⟨a, rfl, h H1 e1 _ fun H2 e2 => ⟨⟨dx, fs, e2 a _ (e1 a _ ho)⟩, k H2 (e1.trans e2)⟩⟩
theorem q_pop {l : Addr} {xs : List V} {i : Nat} (hl : H l = some (.lst xs)) (ha : Ev ta σ H (.ref l)) (hy : xs[xs.length - 1]? = some y) (k : ∀ H1, Ex H H1 → tz D (σ.set i (some y)) (upd H1 l (.lst xs.dropLast))) : tSeq (tAsg (tBM0 K "list" rPop ta) (gName i)) tz D σ H :=
  ha H (Ex.refl H) _ fun H1 e1 => ⟨Or.inl ⟨rfl, xs, sq_of (e1 l _ hl)⟩, l, xs, y, rfl, rfl, e1 l _ hl, hy, k H1 e1⟩
theorem et_notN {b : Bool} (h : Ev te σ H v) (hb : (!decide (v = V.non)) = b) : EvT (tTest (tOp (fun x y H Q => y = V.non ∧ Q (.bl (!decide (x = .non))) H) te (tC .non))) σ H b := by
  subst hb
  exact et_test (ev_op h ev_c fun H1 _ Q q => ⟨rfl, q H1 (Ex.refl H1)⟩)
theorem et_isN {b : Bool} (h : Ev te σ H v) (hb : decide (v = V.non) = b) : EvT (tTest (tOp (fun x y H Q => y = V.non ∧ Q (.bl (decide (x = .non))) H) te (tC .non))) σ H b := by
  subst hb
  exact et_test (ev_op h ev_c fun H1 _ Q q => ⟨rfl, q H1 (Ex.refl H1)⟩)
end
open PySem PySem.Spec PyProof.Rows L2 Evl
section
variable {K : PySem.W.Frag} {w : World} {σ : L2.St} {H H' : Hp} {ta tb tc te tx : TE} {t u : TT} {x y z v : V} {r : R2} {D : Ends} {tz : TS}
theorem ss_any {p : Addr} {ns : List Int} {Q : VK} (h : Ev te σ H (.ref p)) (hp : SqL K H p (ns.map V.int) ∨ SqT K H p (ns.map V.int)) (hl : ns.length < 64)
    (k : ∀ q H2 (ns' : List Int), H q = none → Ex H H2 → H2 q = some (.lst (ns'.map V.int)) → (∀ k, k ∈ ns' ↔ k ∈ ns) → ns'.length ≤ ns.length → Q (.ref q) H2) : tCB (rSortedSet w) (tCons (tCB (Ru.rSetI K w) (tCons te tNil)) tNil) σ H Q :=
  h H (Ex.refl H) _ fun H1 e1 => ⟨p, ns, rfl, hp.elim (fun z => .inl (ex_l e1 z)) (fun z => .inr (ex_t e1 z)), by omega, fun a c ha hc =>
    ⟨a, _, c, rfl, upd_same, by omega, fun ns' q _ hm hlen hq => k q _ ns' (fresh_back e1 (fresh_back (Ex.new ha) hq)) ((e1.trans (Ex.new ha)).trans (Ex.new hq)) upd_same (fun k => by rw [hm k, decide_eq_true_iff]) (by omega)⟩⟩
theorem tss_any {p : Addr} {ns : List Int} {Q : VK} (h : Ev te σ H (.ref p)) (hp : SqL K H p (ns.map V.int) ∨ SqT K H p (ns.map V.int)) (hl : ns.length < 64)
    (k : ∀ q H2 (ns' : List Int), H q = none → Ex H H2 → H2 q = some (.tup (ns'.map V.int)) → (∀ k, k ∈ ns' ↔ k ∈ ns) → ns'.length ≤ ns.length → Q (.ref q) H2) :
    tCB (fun xs H Q => ∃ p ys, xs = [V.ref p] ∧ ((SqL K H p ys ∧ ∀ l, H l = none → Q (.ref l) (upd H l (.tup ys))) ∨ (SqT K H p ys ∧ Q (.ref p) H))) (tCons (tCB (rSortedSet w) (tCons (tCB (Ru.rSetI K w) (tCons te tNil)) tNil)) tNil) σ H Q :=
  ss_any h hp hl fun q H2 ns' hq e2 h2 hm hlen => ⟨q, ns'.map V.int, rfl, .inl ⟨sq_of h2, fun l hl => k l _ ns' (fresh_back e2 hl) (e2.trans (Ex.new hl)) upd_same hm hlen⟩⟩
theorem call_VLV {sp : Sp} {E : L2.St → XK} {xs : List V} {Q : VK} (ha : Ev ta σ H x) (hb : EvL tb σ H xs) (hc : Ev tc σ H z) (k : ∀ H1 p, Ex H H1 → H1 p = some (.lst xs) → sp [x, .ref p, z] H1 Q (E σ)) : Rr.tR sp E (tCons ta (tCons tb (tCons tc tNil))) σ H Q :=
  ha H (Ex.refl H) _ fun H1 e1 => hb H1 e1 _ fun p H2 _ e2 h2 => hc H2 (e1.trans e2) _ fun H3 e3 => k H3 p ((e1.trans e2).trans e3) (e3 p _ h2)
theorem el_dcU {α : Type} {ys : List α} {ex : α → V} {wi : TI} {j : Nat} {vs : List Nat} {tk tv : TE} (k : α → Key) (hi : EvI wi σ H (ys.map ex)) (hz : ys.length < sizeLine) (hw : ∀ x, wipe ((wipe σ vs).set j (some x)) vs = wipe σ vs)
    (hk : ∀ y, y ∈ ys → Ev tk ((wipe σ vs).set j (some (ex y))) H (kV (k y))) (hv : ∀ y, y ∈ ys → ∀ H1, Ex H H1 → ∀ Q : VK, (∀ v H2, Ex H1 H2 → Q v H2) → tv ((wipe σ vs).set j (some (ex y))) H1 Q) :
    ∀ H1, Ex H H1 → ∀ Q : VK, (∀ p H2 kvs, H1 p = none → Ex H1 H2 → H2 p = some (.dK kvs) → Q (.ref p) H2) → tDc wi (gName j) tYes tk tv vs σ H1 Q := fun H0 e0 Q q => hi H0 e0 _ fun J H1 e1 st D hD => by
  have eD : Ex H1 (upd H1 D (.dK [])) := Ex.new hD
  have hlm : (ys.map ex).length = ys.length := List.length_map _
  refine dc_J (n := (ys.map ex).length) (fun i H2 => Ex H1 H2 ∧ ∃ kvs : List (Key × V), H2 D = some (.dK kvs) ∧ kvs.length ≤ i) ⟨eD, [], upd_same, Nat.le_refl _⟩ (fun i H2 hi p => st.go i H2 p.1 hi) (fun H2 p => st.stop H2 p.1) (fun i x H2 H3 hi p y => ?_) (fun H2 p => ?_)
  · obtain ⟨p1, kvs, p2, p3⟩ := p
    obtain ⟨rfl, hx⟩ := st.yld i H2 x H3 p1 hi y
    rw [List.getElem?_map] at hx
    obtain ⟨a, ha, rfl⟩ := Option.map_eq_some_iff.mp hx
    have hm := List.mem_of_getElem? ha
    refine ⟨hw _, ?_⟩
    refine (et_yes (σ := ((wipe σ vs).set j (some (ex a)))) (H := H3)) H3 (Ex.refl H3) _ fun H4 e4 => ?_
    rw [if_pos rfl]
    have e04 := ((e0.trans e1).trans p1).trans e4
    refine hk a hm H4 e04 _ fun H5 e5 => hv a hm H5 (e04.trans e5) _ fun v H6 e6 => ⟨kvs, k a, rfl, e6 D _ (e5 D _ (e4 D _ p2)), by omega, Ex.mut (((p1.trans e4).trans e5).trans e6) hD, _, upd_same, ?_⟩
    have := length_putK kvs (k a) v
    omega
  · obtain ⟨p1, kvs, p2, _⟩ := p
    exact q D H2 kvs (fresh_back e1 hD) (e1.trans p1) p2
end
end Hb
namespace StX
open PySem PySem.Spec PyProof.Rows L2
theorem bind_star3 {B : List Value → Sem (List (Str × Value))} {p1 p2 p3 pv : Str} (h0 : ∀ a b c, B [a, b, c] = (newTuple [] >>= fun t => pure [(p1, a), (p2, b), (p3, c), (pv, t)])) (h1 : ∀ a b c r rs, B (a :: b :: c :: r :: rs) = (newTuple (r :: rs) >>= fun t => pure [(p1, a), (p2, b), (p3, c), (pv, t)])) :
    ∀ us rest : List Value, us.length = [p1, p2, p3].length → B (us ++ rest) = (newTuple rest >>= fun t => pure ([p1, p2, p3].zip us ++ [(pv, t)]))
  | [a, b, c], [], _ => h0 a b c
  | [a, b, c], r :: rs, _ => h1 a b c r rs
end StX
namespace Hb
open PySem PySem.Spec PyProof.Rows L2 Evl
section
variable {K : PySem.W.Frag} {w : World} {σ : L2.St} {H H' : Hp} {ta tb tc te tx : TE} {t u : TT} {x y z v : V} {r : R2} {D : Ends} {tz : TS} {P : V → Hp → Prop}
def EvP (te : TE) (σ : L2.St) (H : Hp) (P : V → Hp → Prop) : Prop := ∀ H1, Ex H H1 → ∀ Q : VK, (∀ v H2, Ex H1 H2 → P v H2 → Q v H2) → te σ H1 Q
theorem ep_ev (h : Ev te σ H v) : EvP te σ H (fun u _ => u = v) := fun H1 e Q q => h H1 e _ fun H2 e2 => q v H2 e2 rfl
theorem ep_L {xs : List V} (h : EvL te σ H xs) : EvP te σ H (fun v H2 => ∃ p, v = .ref p ∧ H p = none ∧ H2 p = some (.lst xs)) := fun H1 e Q q => h H1 e _ fun p H2 hp e2 h2 => q _ H2 e2 ⟨p, rfl, fresh_back e hp, h2⟩
theorem ep_U {xs : List V} (h : EvU te σ H xs) : EvP te σ H (fun v H2 => ∃ p, v = .ref p ∧ H p = none ∧ H2 p = some (.tup xs)) := fun H1 e Q q => h H1 e _ fun p H2 hp e2 h2 => q _ H2 e2 ⟨p, rfl, fresh_back e hp, h2⟩
theorem ep_D {kvs : List (Key × V)} (h : EvD te σ H kvs) : EvP te σ H (fun v H2 => ∃ p, v = .ref p ∧ H p = none ∧ H2 p = some (.dK kvs)) := fun H1 e Q q => h H1 e _ fun p H2 hp e2 h2 => q _ H2 e2 ⟨p, rfl, fresh_back e hp, h2⟩
theorem ed_new : EvD tDNewK σ H [] := fun H1 e Q q => fun p hp => q p _ hp (Ex.new hp) upd_same
theorem EvP.mono {P' : V → Hp → Prop} (h : EvP te σ H P) (k : ∀ v H2, Ex H H2 → P v H2 → P' v H2) : EvP te σ H P' := fun H1 e Q q => h H1 e _ fun v H2 e2 p => q v H2 e2 (k v H2 (e.trans e2) p)
theorem s_st {C dx a : Addr} {fs : List (Str × V)} {f : Str} {i : Nat} (hv : EvP te σ H P) (hi : σ[i]? = some (some (.ref a))) (hx : H a = some (.ins C dx fs)) (c : Cls K C) (n : NoAttr K C f) (hl : fs.length < 1000)
    (k : ∀ y H1 G, Ex H H1 → P y H1 → ExS (oneA a) H1 G → G a = some (.ins C dx (putF f y fs)) → D.nx σ G) : sFld K (tVar i) te f D σ H :=
  fld_any (hv H (Ex.refl H) _ fun y H1 e hP => fld_end (ev_var hi) (e a _ hx) c n hl fun H2 e2 => k y H1 _ e hP (ExS.mut (S := oneA a) (Ex.toS e2) (.inl rfl)) upd_same)
theorem q_st {C dx a : Addr} {fs : List (Str × V)} {f : Str} {i : Nat} (hv : EvP te σ H P) (hi : σ[i]? = some (some (.ref a))) (hx : H a = some (.ins C dx fs)) (c : Cls K C) (n : NoAttr K C f) (hl : fs.length < 1000)
    (k : ∀ y H1 G, Ex H H1 → P y H1 → ExS (oneA a) H1 G → G a = some (.ins C dx (putF f y fs)) → tz D σ G) : tSeq (sFld K (tVar i) te f) tz D σ H := s_st (D := { D with nx := tz D }) hv hi hx c n hl k
theorem tl_any {p : Addr} {xs : List V} (h : Ev te σ H (.ref p)) (hp : SqL K H p xs) :
    EvU (tCB (fun xs H Q => ∃ p ys, xs = [V.ref p] ∧ ((SqL K H p ys ∧ ∀ l, H l = none → Q (.ref l) (upd H l (.tup ys))) ∨ (SqT K H p ys ∧ Q (.ref p) H))) (tCons (tCB (rListS K) (tCons te tNil)) tNil)) σ H xs := fun H1 e Q q =>
  h H1 e _ fun H2 e2 => ⟨p, xs, rfl, .inl (ex_l (e.trans e2) hp), fun l hl => ⟨l, xs, rfl, .inl ⟨sq_of upd_same, fun t ht => q t _ (fresh_back e2 (fresh_back (Ex.new hl) ht)) (e2.trans ((Ex.new hl).trans (Ex.new ht))) upd_same⟩⟩⟩
theorem eu_tupL {xs : List V} (h : EvL te σ H xs) : EvU (tCB (fun xs H Q => ∃ p ys, xs = [V.ref p] ∧ ((SqL K H p ys ∧ ∀ l, H l = none → Q (.ref l) (upd H l (.tup ys))) ∨ (SqT K H p ys ∧ Q (.ref p) H))) (tCons te tNil)) σ H xs := fun H1 e Q q =>
  h H1 e _ fun p H2 hp e2 h2 => ⟨p, xs, rfl, .inl ⟨sq_of h2, fun t ht => q t _ (fresh_back e2 ht) (e2.trans (Ex.new ht)) upd_same⟩⟩
theorem eu_tupV {p : Addr} {xs : List V} (h : Ev te σ H (.ref p)) (hp : SqL K H p xs) : EvU (tCB (fun xs H Q => ∃ p ys, xs = [V.ref p] ∧ ((SqL K H p ys ∧ ∀ l, H l = none → Q (.ref l) (upd H l (.tup ys))) ∨ (SqT K H p ys ∧ Q (.ref p) H))) (tCons te tNil)) σ H xs := fun H1 e Q q =>
  h H1 e _ fun H2 e2 => ⟨p, xs, rfl, .inl ⟨ex_l (e.trans e2) hp, fun t ht => q t _ (fresh_back e2 ht) (e2.trans (Ex.new ht)) upd_same⟩⟩
theorem ep_tup (h : EvP te σ H (fun v H2 => ∃ p, v = .ref p ∧ ∃ xs, SqL K H2 p xs ∧ ∀ t H3, H t = none → Ex H2 H3 → H3 t = some (.tup xs) → P (.ref t) H3)) : EvP (tCB (fun xs H Q => ∃ p ys, xs = [V.ref p] ∧ ((SqL K H p ys ∧ ∀ l, H l = none → Q (.ref l) (upd H l (.tup ys))) ∨ (SqT K H p ys ∧ Q (.ref p) H))) (tCons te tNil)) σ H P := fun H1 e Q q =>
  h H1 e _ fun v H2 e2 ⟨p, hv, xs, h1, h2⟩ => ⟨p, xs, congrArg (fun z => [z]) hv, .inl ⟨h1, fun t ht => q _ _ (e2.trans (Ex.new ht)) (h2 t _ (fresh_back e (fresh_back e2 ht)) (Ex.new ht) upd_same)⟩⟩
theorem call_P3 {sp : Sp} {E : L2.St → XK} {Q : VK} (ha : Ev ta σ H x) (hb : Ev tb σ H y) (hc : EvP tc σ H P) (k : ∀ v H1, Ex H H1 → P v H1 → sp [x, y, v] H1 Q (E σ)) : Rr.tR sp E (tCons ta (tCons tb (tCons tc tNil))) σ H Q :=
  ha H (Ex.refl H) _ fun H1 e1 => hb H1 e1 _ fun H2 e2 => hc H2 (e1.trans e2) _ fun v H3 e3 p => k v H3 ((e1.trans e2).trans e3) p
theorem ep_lcU {α : Type} {ys : List α} {ex : α → V} {wi : TI} {j : Nat} {vs : List Nat} {R : V → Hp → Prop} (hR : ∀ v H1 H2, (∀ a o, (∀ xs, o ≠ HO.lst xs) → H1 a = some o → H2 a = some o) → R v H1 → R v H2) (hi : EvI wi σ H (ys.map ex)) (hz : ys.length < sizeLine) (hw : ∀ x, wipe ((wipe σ vs).set j (some x)) vs = wipe σ vs)
    (hv : ∀ y, y ∈ ys → EvP te ((wipe σ vs).set j (some (ex y))) H R) :
    EvP (tLc wi (gName j) tYes te vs) σ H (fun v H2 => ∃ p acc, v = .ref p ∧ H p = none ∧ H2 p = some (.lst acc) ∧ acc.length ≤ ys.length ∧ ∀ x ∈ acc, R x H2) := fun H0 e0 Q q => hi H0 e0 _ fun J H1 e1 st D hD => by
  have eD : Ex H1 (upd H1 D (.lst [])) := Ex.new hD
  have hlm : (ys.map ex).length = ys.length := List.length_map _
  refine lc_J (n := (ys.map ex).length) (fun i H2 => Ex H1 H2 ∧ ∃ acc : List V, H2 D = some (.lst acc) ∧ acc.length ≤ i ∧ ∀ x ∈ acc, R x H2) ⟨eD, [], upd_same, Nat.le_refl _, fun x h => by cases h⟩ (fun i H2 hi p => st.go i H2 p.1 hi) (fun H2 p => st.stop H2 p.1) (fun i x H2 H3 hi p y => ?_) (fun H2 p => ?_)
  · obtain ⟨p1, acc, p2, p3, p4⟩ := p
    obtain ⟨rfl, hx⟩ := st.yld i H2 x H3 p1 hi y
    rw [List.getElem?_map] at hx
    obtain ⟨a, ha, rfl⟩ := Option.map_eq_some_iff.mp hx
    have hm := List.mem_of_getElem? ha
    refine ⟨hw _, ?_⟩
    refine (et_yes (σ := ((wipe σ vs).set j (some (ex a)))) (H := H3)) H3 (Ex.refl H3) _ fun H4 e4 => ?_
    rw [if_pos rfl]
    have e04 := ((e0.trans e1).trans p1).trans e4
    refine hv a hm H4 e04 _ fun v H5 e5 hr => ⟨acc, e5 D _ (e4 D _ p2), by omega, Ex.mut ((p1.trans e4).trans e5) hD, _, upd_same, by rw [List.length_append, List.length_singleton]; omega, fun z hz => ?_⟩
    have hup : ∀ a o, (∀ xs, o ≠ HO.lst xs) → H5 a = some o → (upd H5 D (.lst (acc ++ [v]))) a = some o := fun a o hn h => by
      rw [upd_ne fun z => by rw [z, e5 D _ (e4 D _ p2)] at h; injection h with h; exact hn _ h.symm]; exact h
    rcases List.mem_append.mp hz with hz | hz
    · exact hR z H3 _ (fun a o hn h => hup a o hn ((e4.trans e5) a o h)) (p4 z hz)
    · rw [List.mem_singleton.mp hz]
      exact hR v H5 _ hup hr
  · obtain ⟨p1, acc, p2, p3, p4⟩ := p
    exact q _ H2 (e1.trans p1) ⟨D, acc, rfl, fresh_back (e0.trans e1) hD, p2, by omega, p4⟩
theorem ep_dcA {wte : TE} {g : TG} {tt : TT} {tk tv : TE} {vs : List Nat} {PP : List V → Prop} (h : EvP wte σ H (fun v H1 => ∃ p xs, v = .ref p ∧ PP xs ∧ H1 p = some (.lst xs))) (k : ∀ p xs H1, Ex H H1 → PP xs → H1 p = some (.lst xs) → EvP (tDc (iList K (tC (.ref p))) g tt tk tv vs) σ H1 P) :
    EvP (tDc (iList K wte) g tt tk tv vs) σ H P := fun H1 e Q q => h H1 e _ fun v H2 e2 ⟨p, xs, hv, hP, h2⟩ => by
  subst hv
  exact k p xs H2 (e.trans e2) hP h2 H2 (Ex.refl H2) Q fun v H3 e3 => q v H3 (e2.trans e3)
theorem ei_own {C a dx l : Addr} {fs : List (Str × V)} {fld : Str} {xs : List V} (h : Ev te σ H (.ref a)) (hx : H a = some (.ins C dx fs)) (hl : fs.lookup fld = some (.ref l)) (hs : SqL K H l xs) : EvI (Rr.iOwn K C fld te) σ H xs := fun H1 e R q =>
  h H1 e _ fun H2 e2 => ⟨a, dx, fs, l, xs, rfl, e2 a _ (e a _ hx), hl, ex_l (e.trans e2) hs, q _ H2 e2 (steady_l (ex_l (e.trans e2) hs))⟩
theorem len_any {Q : VK} (h : te σ H fun v H1 => ∃ p xs, v = .ref p ∧ (SqL K H1 p xs ∨ SqT K H1 p xs) ∧ Q (.int (xs.length : Nat)) H1) (hm : ∀ Q Q' : VK, (∀ v H, Q v H → Q' v H) → te σ H Q → te σ H Q') : tCB (rLenS K) (tCons te tNil) σ H Q :=
  hm _ _ (fun v H1 ⟨p, xs, hv, h1, q⟩ => ⟨p, xs, congrArg (fun z => [z]) hv, h1, q⟩) h
end
end Hb
local macro_rules | `(tactic| walk_at "ev") => `(tactic| (repeat' (first
  | assumption | with_reducible exact Evl.ev_c | with_reducible exact Evl.ev_var rfl | with_reducible exact Evl.ea_nil | with_reducible exact Evl.rv_I0 | with_reducible exact Hb.et_yes | with_reducible exact Evl.rv_eq rfl | with_reducible exact Evl.rv_ne rfl
  | with_reducible exact Hb.rc_len_str (by assumption) | exact Hb.rc_len_l (by assumption) | exact Hb.rc_lenD (by assumption) | exact Hb.rc_isi_ii | exact Hb.rc_isi_ib | exact Hb.rc_isi_ss | with_reducible exact Hb.rc_int_i | with_reducible exact Hb.rc_int_b | with_reducible exact Hb.rv_sign | with_reducible exact Hb.rv_notsign
  | (show L2.flatV _ = true; rfl) | (show List.all _ L2.flatV = true; rfl) | with_reducible refine' Evl.ev_inU ?_ (Evl.eu_tup ?_ ?_) ?_ ?_ | (show List.length _ ≤ 100000; simp; done) | with_reducible refine' Evl.et_test ?_ | with_reducible refine' Evl.et_B ?_ | with_reducible refine' Evl.et_not ?_ | with_reducible refine' Evl.ea_cons ?_ ?_ | with_reducible refine' Evl.ev_cb ?_ ?_ | with_reducible refine' Evl.ev_op ?_ ?_ ?_
  | with_reducible refine' Hb.ev_chain ?_ ?_ ?_ (fun _ => ?_) (fun _ => ?_) | with_reducible refine' Evl.et_or ?_ (fun _ => ?_) | with_reducible refine' Evl.et_and ?_ (fun _ => ?_) | with_reducible refine' Evl.ev_orV ?_ (fun _ => ?_) | with_reducible refine' Evl.ev_andV ?_ (fun _ => ?_) | with_reducible refine' Evl.ev_notV ?_)))
namespace Cs
open PySem PySem.Spec PyProof.Rows L2 Evl Hb
def digC (c : Nat) : Bool := decide (c ∈ ("0123456789" : Str).cps.toList)
def numOf (z : Str) : Int := (PySem.intText? z).getD 0
def isNum (z : Str) : Bool := !(decide (((z.length : Nat) : Int) < 1) || (decide ((3 : Int) < (z.length : Nat)) || !(z.cps.toList.all digC))) && (decide (z = "0") || (decide (z.cps.toList[0]? ≠ some 48) && decide (numOf z ≤ 255)))
theorem dig_iff (c : Nat) : digC c = true ↔ 48 ≤ c ∧ c ≤ 57 := by
  have e : ("0123456789" : Str).cps.toList = [48, 49, 50, 51, 52, 53, 54, 55, 56, 57] := by decide +kernel
  unfold digC
  rw [e, decide_eq_true_iff]
  simp only [List.mem_cons, List.not_mem_nil, or_false]
  omega
theorem num_of {z : Str} (h1 : 1 ≤ z.length) (h2 : z.length ≤ 640) (h : z.cps.toList.all digC = true) : PySem.intText? z = some (numOf z) := by
  have hd : PySem.NumText.AllDigits z.cps.toList := fun c hc => (dig_iff c).mp (List.all_eq_true.mp h c hc)
  have e := PySem.intText_digits (x := z) hd (fun q => by rw [← codes_len, q] at h1; exact absurd h1 (by decide)) (by omega)
  unfold numOf
  rw [e]
  rfl
def sp_is_number : Sp := fun vs H Q _ => ∃ z : Str, vs = [.str z] ∧ z.length ≤ sizeLine ∧ ∀ H', Same H H' → Q (.bl (isNum z)) H'
theorem ok_is_number {P : Program} {w : World} {K : PySem.W.Frag} {mg : Str → Option Value} {base : Heap} (T : Txt P K mg) : FnR P w K mg base (CX0) 1 (f_is_number K) (sp_is_number) := by
  obtain ⟨fd, F⟩ := T.F_is_number
  obtain ⟨_, c_DIGITS⟩ := T.c_DIGITS
  obtain ⟨_, c_MOST_DIGITS⟩ := T.c_MOST_DIGITS
  obtain ⟨_, c_MOST_NUMBER⟩ := T.c_MOST_NUMBER
  refine Rr.fnR_ok (F.ok sc_is_number (fun vs H Q E h => ?_) (fun cdv A outer s H vs Q E hr h => ?_)) (F.bindsN fun _ _ _ _ _ _ us hl => match us, hl with | [_], _ => rfl)
  · obtain ⟨z, rfl, _⟩ := h
    rfl
  · obtain ⟨z, rfl, h⟩ := h
    refine ⟨_, PSs.nox (pss_cons (ps_if (PW.pt (pw_or (pt_cmpR op_lt (pe_callB call_len_str rfl T.b_len (by decide +kernel) (pa_cons (pv 0) pa_nil)) pe_int (nomark _)) (pw_or (pt_cmpR op_gt (pe_callB call_len_str rfl T.b_len (by decide +kernel) (pa_cons (pv 0) pa_nil)) (pe_glob (v := .int 3) rfl c_MOST_DIGITS ⟨_, rfl⟩) (nomark _)) (pw_or1 (pt_not (pt_val (pe_callB (cr_all rfl) rfl T.b_all (by decide +kernel) (pa_cons (pe_lc (own := [("sign", 1)]) (g := gName 1) (tt := tYes) rfl sc_is_number.nd (pi_str (pv 0)) (blkOk_by (N := N_is_number) (sc := defScope s_is_number) (by decide +kernel)) (fun _ _ _ _ _ => (pg_name (i := 1) sc_is_number.nd rfl (Or.inl rfl))) (fun _ _ _ _ _ => pts_nil) (fun _ _ _ _ _ => (pe_cmpR op_in_sign (pv 1) (pe_glob (v := .str "0123456789") rfl c_DIGITS ⟨_, rfl⟩) (by rfl)))) pa_nil)))))))) (pss_one (ps_ret pe_bl)) pss_nil)
      (pss_one (ps_ret (pe_or (pe_cmpR op_eq (pv 0) pe_str (nomark _)) (pe_one (pe_and (pe_cmpR op_ne (pe_ix ix_str (pv 0) pe_int (fun _ _ => rfl)) pe_str (nomark _)) (pe_one (pe_cmpR op_le (pe_callTy call_int_str rfl T.b_int (by decide +kernel) (pa_cons (pv 0) pa_nil)) (pe_glob (v := .int 255) rfl c_MOST_NUMBER ⟨_, rfl⟩) (nomark _))))))))), ?_⟩
    obtain ⟨hz, k⟩ := h
    show tSeq _ _ _ [some (V.str z), none] H
    have hall : ∀ Q : VK, True := fun _ => trivial
    refine q_when (b := decide (((z.length : Nat) : Int) < 1) || (decide ((3 : Int) < (z.length : Nat)) || !(z.cps.toList.all digC))) ?_ ?_ ?_
    · refine et_or ?_ (fun _ => et_or ?_ (fun _ => et_not (et_B ?_)))
      · walk_at "ev"
      · walk_at "ev"
      · refine ev_is (ev_all (bs := z.cps.toList.map digC) (el_lcM (fun c => V.bl (digC c)) (ei_s (ev_var rfl)) (by rw [codes_len]; exact hz) (fun x => rfl) (fun c hc => ?_)) (by simp)) (by simp)
        show Ev _ _ _ (V.bl (decide (c ∈ ("0123456789" : Str).cps.toList)))
        walk_at "ev"
    · intro hb H1 e1
      refine s_ret ev_c fun H2 e2 => ?_
      have hn : isNum z = false := by unfold isNum; rw [hb]; rfl
      have := k H2 (e1.trans e2)
      rw [hn] at this
      exact this
    · intro hb H1 e1
      have hb' := hb
      simp only [Bool.or_eq_false_iff, decide_eq_false_iff_not, Bool.not_eq_false'] at hb
      obtain ⟨h1, h2, h3⟩ := hb
      obtain ⟨c, hc⟩ : ∃ c, z.cps.toList[0]? = some c := by
        cases e : z.cps.toList with
        | nil => exact absurd (by rw [← codes_len, e]; decide) h1
        | cons c r => exact ⟨c, rfl⟩
      have ha : atI z.cps.toList 0 = some c := by
        have := atI_nat (xs := z.cps.toList) (j := 0) (v := c) hc
        exact this
      have hn := num_of (z := z) (by omega) (by omega) h3
      have hl : z.length ≤ 640 := by omega
      have ec : decide (V.str ⟨#[c]⟩ = V.str "0") = decide (c = 48) := by
        by_cases e : c = 48
        · subst e; rfl
        · rw [decide_eq_false e]
          refine decide_eq_false fun q => e ?_
          injection q with q
          have := congrArg (fun s : Str => s.cps.toList) q
          have e2 : ("0" : Str).cps.toList = [48] := by decide +kernel
          rw [e2] at this
          simpa using this
      have hi : isNum z = (decide (V.str z = V.str "0") || (!decide (V.str ⟨#[c]⟩ = V.str "0") && decide (numOf z ≤ 255))) := by
        unfold isNum
        rw [hb', ec, hc]
        by_cases e : z = "0"
        · simp [e]
        · have e' : ¬ (V.str z = V.str "0") := fun q => e (V.str.inj q)
          by_cases e2 : c = 48 <;> simp [e, e', e2]
      refine s_ret (v := .bl (isNum z)) (ev_is (ev_orV (a := decide (V.str z = V.str "0")) ?_ (fun _ => ev_andV (a := !decide (V.str ⟨#[c]⟩ = V.str "0")) (b := decide (numOf z ≤ 255)) ?_ (fun _ => ?_))) (by rw [hi])) fun H2 e2 => k H2 (e1.trans e2)
      · walk_at "ev"
      · refine ev_op (ev_op (ev_var rfl) ev_c (rv_ixS2 hz ha)) ev_c (rv_ne rfl)
      · refine ev_op (ev_cb (ea_cons (ev_var rfl) ea_nil) (rc_int_str hn hl)) ev_c rv_I0
open PySem PySem.Spec PyProof.Rows L2 Evl Hb
theorem sv_is_number {H : Hp} {z : Str} (h : z.length ≤ sizeLine) : SpV sp_is_number [.str z] H (.bl (isNum z)) := fun H1 e Q q E => ⟨z, rfl, h, q⟩
def fits (z k : Str) : Bool := if k = "n" then isNum z else if k = "w" then !decide (z = "") else decide (z = cutS k (some 1) none)
def sp_stands : Sp := fun vs H Q _ => ∃ z k : Str, vs = [.str z, .str k] ∧ z.length ≤ sizeLine ∧ k.length ≤ sizeLine ∧ RetV (.bl (fits z k)) H Q
theorem dec_str {x y : Str} : decide (V.str x = V.str y) = decide (x = y) := by
  by_cases e : x = y
  · subst e; simp
  · rw [decide_eq_false e, decide_eq_false fun q => e (V.str.inj q)]
theorem ok_stands {P : Program} {w : World} {K : PySem.W.Frag} {mg : Str → Option Value} {base : Heap} (T : Txt P K mg) : FnR P w K mg base (CX0) 2 (f_stands K) (sp_stands) := by
  obtain ⟨fd, F⟩ := T.F_stands
  have F_is_number := ok_is_number (w := w) (base := base) T
  refine Rr.fnR_ok (F.ok sc_stands (fun vs H Q E h => ?_) (fun cdv A outer s H vs Q E hr h => ?_)) (F.bindsN fun _ _ _ _ _ _ us hl => match us, hl with | [_, _], _ => rfl)
  · obtain ⟨z, c, rfl, _⟩ := h
    rfl
  · obtain ⟨z, c, rfl, h⟩ := h
    have hr_is_number : Room 1 _ := hr.mono (by decide)
    refine ⟨_, PSs.nox (pss_cons (ps_if (pt_cmpR op_eq (pv 1) pe_str (nomark _)) (pss_one (ps_ret (Rr.pe_cR F_is_number hr_is_number T.k_is_number T.g_is_number Rr.pass0 (pa_cons (pv 0) pa_nil)))) pss_nil)
      (pss_cons (ps_if (pt_cmpR op_eq (pv 1) pe_str (nomark _)) (pss_one (ps_ret (pe_cmpR op_ne (pv 0) pe_str (nomark _)))) pss_nil)
      (pss_one (ps_ret (pe_cmpR op_eq (pv 0) (pe_slice sl_str (pv 1) (po_some pe_int) po_none) (nomark _)))))), ?_⟩
    obtain ⟨hz, hc, k⟩ := h
    show tSeq _ _ _ [some (V.str z), some (V.str c)] H
    refine q_when (b := decide (V.str c = V.str "n")) (by walk_at "ev") (fun hb H1 e1 => ?_) (fun hb H1 e1 => ?_)
    · have e : c = "n" := by simpa [dec_str] using hb
      refine s_ret (v := .bl (fits z c)) (ev_is (ev_R (ea_cons (ev_var rfl) ea_nil) (sv_is_number hz)) (by rw [fits, if_pos e])) fun H2 e2 => k H2 (e1.trans e2)
    · have e : ¬ c = "n" := by simpa [dec_str] using hb
      refine q_when (b := decide (V.str c = V.str "w")) (by walk_at "ev") (fun hb H2 e2 => ?_) (fun hb H2 e2 => ?_)
      · have e' : c = "w" := by simpa [dec_str] using hb
        refine s_ret (v := .bl (fits z c)) (ev_is (ev_op (ev_var rfl) ev_c (rv_ne rfl)) (by rw [fits, if_neg e, if_pos e', dec_str])) fun H3 e3 => k H3 ((e1.trans e2).trans e3)
      · have e' : ¬ c = "w" := by simpa [dec_str] using hb
        refine s_ret (v := .bl (fits z c)) (ev_is (ev_op (ev_var rfl) (rv_slS hc (ev_var rfl) (eo_some ev_c) eo_none) (rv_eq rfl)) (by rw [fits, if_neg e, if_neg e', dec_str])) fun H3 e3 => k H3 ((e1.trans e2).trans e3)
theorem sv_stands {H : Hp} {z k : Str} (h : z.length ≤ sizeLine) (hk : k.length ≤ sizeLine) : SpV sp_stands [.str z, .str k] H (.bl (fits z k)) := fun H1 e Q q E => ⟨z, k, rfl, h, hk, q⟩
open PySem PySem.Spec PyProof.Rows L2 Evl Hb
def bad : List Str → List Str → Nat → Option Nat
  | [], [], _ => none
  | _ :: _, [], i => some i
  | [], _ :: _, i => some i
  | w :: ws, k :: ks, i => if fits w k then bad ws ks (i + 1) else some i
def Short (ws : List Str) : Prop := ∀ w ∈ ws, w.length ≤ sizeLine
def sp_check_line (K : PySem.W.Frag) : Sp := fun vs H Q E => ∃ (line : Int) (pw pk : Addr) (ws ks : List Str), vs = [.int line, .ref pw, .ref pk] ∧ SqL K H pw (ws.map V.str) ∧ SqL K H pk (ks.map V.str) ∧ Short ws ∧ Short ks ∧
  (bad ws ks 0 = none → RetV .non H Q) ∧ ∀ j : Nat, bad ws ks 0 = some j → RaiseX (C_BadText K) [("word", .int j), ("line", .int line)] H E
theorem atI_map {xs : List Str} {i : Nat} {x : Str} (h : xs[i]? = some x) : atI (xs.map V.str) (i : Int) = some (V.str x) := atI_nat (by rw [List.getElem?_map, h]; rfl)
theorem bad_step {ws ks : List Str} {i : Nat} {k : Str} (hk : ks[i]? = some k) : bad (ws.drop i) (ks.drop i) i = match ws[i]? with
    | none => some i
    | some w => if fits w k then bad (ws.drop (i + 1)) (ks.drop (i + 1)) (i + 1) else some i := by
  have hk' : i < ks.length := (List.getElem?_eq_some_iff.mp hk).1
  have ek : ks.drop i = k :: ks.drop (i + 1) := by
    rw [List.drop_eq_getElem_cons hk']
    congr 1
    exact (List.getElem?_eq_some_iff.mp hk).2
  rw [ek]
  cases e : ws[i]? with
  | none =>
    rw [List.drop_eq_nil_of_le (List.getElem?_eq_none_iff.mp e)]
    rfl
  | some w =>
    obtain ⟨hw, rfl⟩ := List.getElem?_eq_some_iff.mp e
    rw [List.drop_eq_getElem_cons hw]
    rfl
theorem ok_check_line {P : Program} {w : World} {K : PySem.W.Frag} {mg : Str → Option Value} {base : Heap} (T : Txt P K mg) : FnR P w K mg base (L2.CX P w) 3 (f_check_line K) (sp_check_line K) := by
  obtain ⟨fd, F⟩ := T.F_check_line
  have F_stands := ok_stands (w := w) (base := base) T
  refine Rr.fnR_ok (F.ok sc_check_line (fun vs H Q E h => ?_) (fun cdv A outer s H vs Q E hr h => ?_)) (F.bindsN fun _ _ _ _ _ _ us hl => match us, hl with | [_, _, _], _ => rfl)
  · obtain ⟨line, pw, pk, ws, ks, rfl, _⟩ := h
    rfl
  · obtain ⟨line, pw, pk, ws, ks, rfl, h⟩ := h
    have hr_stands : Room 2 _ := hr.mono (by decide)
    refine ⟨_, (pss_cons (ps_for (passes_of rfl) rfl (pi_enum rfl T.b_enumerate (pa_cons (pv 2) pa_nil)) (pg_tup (by rfl) (pgs_cons (pg_name (i := 3) sc_check_line.nd rfl (Or.inl rfl)) (pgs_cons (pg_name (i := 4) sc_check_line.nd rfl (Or.inl rfl)) pgs_nil))) (pss_one (ps_if (PW.pt (pw_or (pt_cmpR op_ge (pv 3) (pe_callB call_len_seq rfl T.b_len (by decide +kernel) (pa_cons (pv 1) pa_nil)) (nomark _)) (pw_or1 (pt_not (pt_val (Rr.pe_cR F_stands hr_stands T.k_stands T.g_stands Rr.pass0 (pa_cons (pe_ix ix_list (pv 1) (pv 3) (fun _ _ => rfl)) (pa_cons (pv 4) pa_nil)))))))) (pss_one (SupX.ps_raiseSup rfl T.x_BadText hr (takes_of rfl rfl rfl rfl) (pa_cons (pv 0) (pa_cons (pv 3) pa_nil)))) pss_nil)))
      (pss_one (ps_if (pt_cmpR op_gt (pe_callB call_len_seq rfl T.b_len (by decide +kernel) (pa_cons (pv 1) pa_nil)) (pe_callB call_len_seq rfl T.b_len (by decide +kernel) (pa_cons (pv 2) pa_nil)) (nomark _)) (pss_one (SupX.ps_raiseSup rfl T.x_BadText hr (takes_of rfl rfl rfl rfl) (pa_cons (pv 0) (pa_cons (pe_callB call_len_seq rfl T.b_len (by decide +kernel) (pa_cons (pv 2) pa_nil)) pa_nil)))) pss_nil))), ?_⟩
    obtain ⟨hw, hk, sw, sk, k1, k2⟩ := h
    show tSeq _ _ _ [some (V.int line), some (.ref pw), some (.ref pk), none, none] H
    refine q_forE (xs := ks.map V.str) (ea_cons (ev_var rfl) ea_nil) hk (fun i σ H' => ∃ x y, σ = [some (V.int line), some (.ref pw), some (.ref pk), x, y] ∧ Ex H H' ∧ bad ws ks 0 = bad (ws.drop i) (ks.drop i) i) (fun H1 e => ⟨_, _, rfl, e, rfl⟩) (fun i σ H' hi p => ?_) (fun i v σ H' hv p H2 e2 => ?_) (fun σ H' p => ?_)
    · obtain ⟨_, _, _, e, _⟩ := p
      exact ex_l e hk
    · obtain ⟨x, y, rfl, e, hb⟩ := p
      rw [List.getElem?_map] at hv
      obtain ⟨kd, hkd, rfl⟩ := Option.map_eq_some_iff.mp hv
      rw [bad_step hkd] at hb
      have eH : Ex H H2 := e.trans e2
      have hw2 := ex_l eH hw
      have hkl : kd.length ≤ sizeLine := sk _ (List.mem_of_getElem? hkd)
      show tIfS _ _ _ _ [some (V.int line), some (.ref pw), some (.ref pk), some (.int (i : Nat)), some (.str kd)] H2
      refine s_when (b := decide (((i : Nat) : Int) ≥ ((ws.map V.str).length : Nat)) || !(ws[i]?.any fun w => fits w kd)) (et_or ?_ (fun hge => et_not (et_B ?_))) (fun hbb H3 e3 => ?_) (fun hbb H3 e3 => ?_)
      · walk_at "ev"
      · have hlt : i < ws.length := by
          rw [List.length_map, decide_eq_false_iff_not] at hge
          omega
        have hwi : ws[i]? = some ws[i] := List.getElem?_eq_getElem hlt
        rw [hwi]
        exact ev_R (ea_cons (ev_op (ev_var rfl) (ev_var rfl) (rv_ixL hw2 (atI_map hwi))) (ea_cons (ev_var rfl) ea_nil)) (sv_stands (sw _ (List.mem_of_getElem? hwi)) hkl)
      · have hbj : bad ws ks 0 = some i := by
          rw [hb]
          cases ew : ws[i]? with
          | none => rfl
          | some w =>
            rw [ew] at hbb
            rw [Option.any_some] at hbb
            have hlt := (List.getElem?_eq_some_iff.mp ew).1
            have : ¬ (((i : Nat) : Int) ≥ ((ws.map V.str).length : Nat)) := by rw [List.length_map]; omega
            rw [decide_eq_false this] at hbb
            have hf : fits w kd = false := by simpa using hbb
            show (if fits w kd = true then _ else some i) = some i
            rw [hf]; rfl
        show SupX.tMkSup _ _ _ _ _ _
        refine s_raise (vs := [.int line, .int (i : Nat)]) (ea_cons (ev_var rfl) (ea_cons (ev_var rfl) ea_nil)) rfl ?_
        exact (k2 i hbj).mono (eH.trans e3)
      · refine ⟨_, _, rfl, eH.trans e3, ?_⟩
        rw [hb]
        cases ew : ws[i]? with
        | none =>
          rw [ew] at hbb
          have := List.getElem?_eq_none_iff.mp ew
          have : (((i : Nat) : Int) ≥ ((ws.map V.str).length : Nat)) := by rw [List.length_map]; omega
          rw [decide_eq_true this] at hbb
          cases hbb
        | some w =>
          rw [ew, Option.any_some] at hbb
          have hf : fits w kd = true := by
            cases hq : fits w kd with
            | true => rfl
            | false => rw [hq] at hbb; simp at hbb
          show (if fits w kd = true then _ else some i) = _
          rw [if_pos hf]
    · obtain ⟨x, y, rfl, e, hb⟩ := p
      rw [List.length_map, List.drop_length] at hb
      have hw2 := ex_l e hw
      have hk2 := ex_l e hk
      refine s_when (b := decide (((ws.map V.str).length : Int) > ((ks.map V.str).length : Nat))) (by walk_at "ev") (fun hbb H3 e3 => ?_) (fun hbb H3 e3 => ?_)
      · rw [List.length_map, List.length_map, decide_eq_true_iff] at hbb
        have hbj : bad ws ks 0 = some ks.length := by
          rw [hb, List.drop_eq_getElem_cons (show ks.length < ws.length by omega)]
          rfl
        show SupX.tMkSup _ _ _ _ _ _
        refine s_raise (vs := [.int line, .int ks.length]) (ea_cons (ev_var rfl) (ea_cons (ev_is (v := .int ((ks.map V.str).length : Nat)) (ev_cb (ea_cons (ev_var rfl) ea_nil) (rc_len_l (ex_l e3 hk2))) (by rw [List.length_map])) ea_nil)) rfl ?_
        exact (k2 _ hbj).mono (e.trans e3)
      · rw [List.length_map, List.length_map, decide_eq_false_iff_not] at hbb
        have hbn : bad ws ks 0 = none := by
          rw [hb, List.drop_eq_nil_of_le (show ws.length ≤ ks.length by omega)]
          rfl
        exact k1 hbn _ (e.trans e3)
open PySem PySem.Spec PyProof.Rows L2 Evl Hb TL
theorem spl_part_le (S : List Nat) : ∀ (l : List Nat) (k : Nat) (acc p : List Nat), p ∈ spl S k acc l → p.length ≤ acc.length + l.length
  | [], k, acc, p, h => by
    rw [spl_nil] at h
    have : p = acc := by simpa using h
    subst this
    simp
  | c :: r, 0, acc, p, h => by
    cases hp : pre S (c :: r) with
    | true =>
      rw [spl_hit hp] at h
      rcases List.mem_cons.mp h with e | h
      · subst e; simp
      · have := spl_part_le S r _ _ p h
        simp at this ⊢; omega
    | false =>
      rw [spl_miss hp] at h
      have := spl_part_le S r _ _ p h
      simp at this ⊢; omega
  | c :: r, k + 1, acc, p, h => by
    have e : spl S (k + 1) acc (c :: r) = spl S k acc r := by rw [spl_pass, spl_pass S k]; rfl
    rw [e] at h
    have := spl_part_le S r _ _ p h
    simp; omega
theorem spl_ne (S : List Nat) : ∀ (l : List Nat) (k : Nat) (acc : List Nat), spl S k acc l ≠ []
  | [], k, acc => by rw [spl_nil]; simp
  | c :: r, 0, acc => by
    cases hp : pre S (c :: r) with
    | true => rw [spl_hit hp]; simp
    | false => rw [spl_miss hp]; exact spl_ne S r _ _
  | c :: r, k + 1, acc => by
    have e : spl S (k + 1) acc (c :: r) = spl S k acc r := by rw [spl_pass, spl_pass S k]; rfl
    rw [e]
    exact spl_ne S r _ _
theorem spl_part_in (S : List Nat) : ∀ (l : List Nat) (k : Nat) (acc p : List Nat), p ∈ spl S k acc l → ∀ c ∈ p, c ∈ acc ∨ c ∈ l
  | [], k, acc, p, h => by
    rw [spl_nil] at h
    have : p = acc := by simpa using h
    subst this
    exact fun c hc => .inl hc
  | c :: r, 0, acc, p, h => by
    cases hp : pre S (c :: r) with
    | true =>
      rw [spl_hit hp] at h
      rcases List.mem_cons.mp h with e | h
      · subst e; exact fun c hc => .inl hc
      · intro x hx
        rcases spl_part_in S r _ _ p h x hx with z | z
        · cases z
        · exact .inr (List.mem_cons_of_mem _ z)
    | false =>
      rw [spl_miss hp] at h
      intro x hx
      rcases spl_part_in S r _ _ p h x hx with z | z
      · rcases List.mem_append.mp z with z | z
        · exact .inl z
        · exact .inr (by simp at z; simp [z])
      · exact .inr (List.mem_cons_of_mem _ z)
  | c :: r, k + 1, acc, p, h => by
    have e : spl S (k + 1) acc (c :: r) = spl S k acc r := by rw [spl_pass, spl_pass S k]; rfl
    rw [e] at h
    intro x hx
    rcases spl_part_in S r _ _ p h x hx with z | z
    · exact .inl z
    · exact .inr (List.mem_cons_of_mem _ z)
theorem split_in {x y w : Str} (hy : tl y ≠ []) (hk : y.cps.all (· < 256) = true) (h : w ∈ Txt.split x y) : ∀ c ∈ tl w, c ∈ tl x := fun c hc => by
  have e := split_spl x y hy (kind_ok hk)
  have h2 : tl w ∈ (Txt.split x y).map tl := List.mem_map_of_mem h
  rw [e] at h2
  rcases spl_part_in _ _ _ _ _ h2 c hc with z | z
  · cases z
  · exact z
def CpOk (t : Str) : Prop := ∀ c ∈ tl t, c < 1114112
theorem CpOk.strOk {t : Str} (h : CpOk t) : PyData.strOk t = true := by
  unfold PyData.strOk
  rw [← Array.all_toList, List.all_eq_true]
  exact fun c hc => decide_eq_true (h c hc)
theorem split_part {x y w : Str} (hy : tl y ≠ []) (hk : y.cps.all (· < 256) = true) (h : w ∈ Txt.split x y) : w.length ≤ x.length := by
  have e := split_spl x y hy (kind_ok hk)
  have h2 : tl w ∈ (Txt.split x y).map tl := List.mem_map_of_mem h
  rw [e] at h2
  have := spl_part_le _ _ _ _ _ h2
  rw [len_tl, len_tl x]
  simpa using this
theorem split_ne {x y : Str} (hy : tl y ≠ []) (hk : y.cps.all (· < 256) = true) : Txt.split x y ≠ [] := fun z => by
  have e := split_spl x y hy (kind_ok hk)
  rw [z] at e
  exact spl_ne _ _ _ _ e.symm
def rowsOf (t : Str) : List (List Str) := (Txt.split t "\n").map fun l => Txt.split l " "
structure Good (rows : List (List Str)) : Prop where
  len : rows.length ≤ 95000
  ne : ∀ ws ∈ rows, ws ≠ []
  wid : ∀ ws ∈ rows, ws.length ≤ 30
  sh : ∀ ws ∈ rows, ∀ w ∈ ws, w.length ≤ 95000
  cp : ∀ ws ∈ rows, ∀ w ∈ ws, PyData.strOk w = true
theorem nl_ne : tl ("\n" : Str) ≠ [] ∧ ("\n" : Str).cps.all (· < 256) = true := by decide +kernel
theorem sp_ne : tl (" " : Str) ≠ [] ∧ (" " : Str).cps.all (· < 256) = true := by decide +kernel
theorem rowsOf_good {t : Str} (h : t.length ≤ 90000) (hc : CpOk t) (hwid : ∀ ws ∈ rowsOf t, ws.length ≤ 30) : Good (rowsOf t) := by
  have hl : ∀ l ∈ Txt.split t "\n", l.length ≤ 90000 := fun l hl => Nat.le_trans (split_part nl_ne.1 nl_ne.2 hl) h
  refine ⟨?_, fun ws hw => ?_, hwid, fun ws hw w hm => ?_, fun ws hw w hm => ?_⟩
  · rw [rowsOf, List.length_map]
    have := PyProof.Rows.split_le t "\n"
    omega
  all_goals
    obtain ⟨l, hm1, rfl⟩ := List.mem_map.mp hw
    have := hl l hm1
  · exact split_ne sp_ne.1 sp_ne.2
  · have := split_part sp_ne.1 sp_ne.2 hm
    omega
  · exact CpOk.strOk fun c hcw => hc c (split_in nl_ne.1 nl_ne.2 hm1 c (split_in sp_ne.1 sp_ne.2 hm c hcw))
theorem rowsOf_ne (t : Str) : rowsOf t ≠ [] := fun z => split_ne (x := t) nl_ne.1 nl_ne.2 (List.map_eq_nil_iff.mp z)
theorem el_split {te tx : TE} {σ : L2.St} {H : Hp} {a b : Str} (h : Ev te σ H (.str a)) (hx : Ev tx σ H (.str b)) (hb : (b.length == 0) = false) (ha : a.length + 2 ≤ sizeLine) :
    EvL (tM1 (fun x xs H Q => ∃ a b, x = V.str a ∧ xs = [.str b] ∧ (b.length == 0) = false ∧ a.length + 2 ≤ sizeLine ∧ rNewStrs (Txt.split a b) H Q) te tx) σ H ((Txt.split a b).map V.str) := fun H1 e Q q =>
  h H1 e _ fun H2 e2 => ⟨⟨a, rfl⟩, hx H2 (e.trans e2) _ fun H3 e3 => ⟨a, b, rfl, rfl, hb, ha, fun p hp => q p _ (fresh_back (e2.trans e3) hp) ((e2.trans e3).trans (Ex.new hp)) upd_same⟩⟩
def EvRows (te : TE) (σ : L2.St) (H : Hp) (rows : List (List Str)) : Prop := ∀ H1, Ex H H1 → ∀ Q : VK, (∀ p H2, H1 p = none → Ex H1 H2 → Rows H2 p rows → Q (.ref p) H2) → te σ H1 Q
theorem el_rows {α : Type} {ys : List α} {ex : α → V} {wi : TI} {j : Nat} {vs : List Nat} {σ : L2.St} {H : Hp} {te : TE} (v : α → List Str) (hi : EvI wi σ H (ys.map ex)) (hz : ys.length ≤ sizeLine) (hw : ∀ x, wipe ((wipe σ vs).set j (some x)) vs = wipe σ vs)
    (he : ∀ y, y ∈ ys → EvL te ((wipe σ vs).set j (some (ex y))) H ((v y).map V.str)) : EvRows (tLc wi (gName j) tYes te vs) σ H (ys.map v) := fun H0 e0 Q q => hi H0 e0 _ fun J H1 e1 st D hD => by
  have eD : Ex H1 (upd H1 D (.lst [])) := Ex.new hD
  have hlm : (ys.map ex).length = ys.length := List.length_map _
  refine lc_J (n := (ys.map ex).length) (fun i H2 => Ex H1 H2 ∧ ∃ as : List Addr, H2 D = some (.lst (as.map V.ref)) ∧ as.length = i ∧ ∀ (k : Nat) a y, as[k]? = some a → ys[k]? = some y → a ≠ D ∧ H2 a = some (.lst ((v y).map V.str))) ⟨eD, [], upd_same, rfl, fun k a y h => by simp at h⟩
    (fun i H2 hi p => st.go i H2 p.1 hi) (fun H2 p => st.stop H2 p.1) (fun i x H2 H3 hi p y => ?_) (fun H2 p => ?_)
  · obtain ⟨p1, as, p2, p3, p4⟩ := p
    obtain ⟨rfl, hx⟩ := st.yld i H2 x H3 p1 hi y
    rw [List.getElem?_map] at hx
    obtain ⟨a, ha, rfl⟩ := Option.map_eq_some_iff.mp hx
    refine ⟨hw _, ?_⟩
    refine (et_yes (σ := ((wipe σ vs).set j (some (ex a)))) (H := H3)) H3 (Ex.refl H3) _ fun H5 e5 => ?_
    rw [if_pos rfl]
    replace p1 := p1.trans e5
    replace p2 := e5 D _ p2
    refine he a (List.mem_of_getElem? ha) H5 ((e0.trans e1).trans p1) _ fun b H4 hb e4 h4 => ⟨_, e4 D _ p2, by rw [List.length_map, p3]; omega, Ex.mut (p1.trans e4) hD, as ++ [b], ?_, by rw [List.length_append, p3]; rfl, fun k c y hc hy => ?_⟩
    · rw [List.map_append]
      exact upd_same
    · have hbD : b ≠ D := fun z => by rw [z, p2] at hb; cases hb
      by_cases hk : k < i
      · rw [List.getElem?_append_left (by omega)] at hc
        obtain ⟨n1, n2⟩ := p4 k c y hc hy
        exact ⟨n1, by rw [upd_ne n1]; exact e4 c _ (e5 c _ n2)⟩
      · have hk2 : k < (as ++ [b]).length := (List.getElem?_eq_some_iff.mp hc).1
        have : k = i := by rw [List.length_append, p3, List.length_singleton] at hk2; omega
        subst this
        rw [List.getElem?_append_right (by omega), p3, Nat.sub_self] at hc
        have hcb : b = c := by simpa using hc
        subst hcb
        rw [ha] at hy
        cases hy
        exact ⟨hbD, by rw [upd_ne hbD]; exact h4⟩
  · obtain ⟨p1, as, p2, p3, p4⟩ := p
    refine q D H2 (fresh_back e1 hD) (e1.trans p1) ⟨as, p2, by rw [p3, hlm, List.length_map], fun i a ws ha hws => ?_⟩
    rw [List.getElem?_map] at hws
    obtain ⟨y, hy, rfl⟩ := Option.map_eq_some_iff.mp hws
    exact (p4 i a y ha hy).2
def RetRows (rows : List (List Str)) (H : Hp) (Q : VK) : Prop := ∀ p H2, H p = none → Ex H H2 → Rows H2 p rows → Q (.ref p) H2
def sp_split_lines : Sp := fun vs H Q _ => ∃ t : Str, vs = [.str t] ∧ t.length ≤ 90000 ∧ RetRows (rowsOf t) H Q
theorem ok_split_lines {P : Program} {w : World} {K : PySem.W.Frag} {mg : Str → Option Value} {base : Heap} (T : Txt P K mg) : FnR P w K mg base (CX0) 1 (f_split_lines K) (sp_split_lines) := by
  obtain ⟨fd, F⟩ := T.F_split_lines
  refine Rr.fnR_ok (F.ok sc_split_lines (fun vs H Q E h => ?_) (fun cdv A outer s H vs Q E hr h => ?_)) (F.bindsN fun _ _ _ _ _ _ us hl => match us, hl with | [_], _ => rfl)
  · obtain ⟨t, rfl, _⟩ := h
    rfl
  · obtain ⟨t, rfl, h⟩ := h
    refine ⟨_, PSs.nox (pss_one (ps_ret (pe_lc (own := [("line", 1)]) (g := gName 1) (tt := tYes) rfl sc_split_lines.nd (pi_list (pe_split (pv 0) pe_str)) (blkOk_by (N := N_split_lines) (sc := defScope s_split_lines) (by decide +kernel)) (fun _ _ _ _ _ => (pg_name (i := 1) sc_split_lines.nd rfl (Or.inl rfl))) (fun _ _ _ _ _ => pts_nil) (fun _ _ _ _ _ => (pe_split (pv 1) pe_str))))), ?_⟩
    obtain ⟨ht, k⟩ := h
    have hz : ∀ n, n ≤ 90000 → n + 2 ≤ sizeLine := fun n hn => by rw [sizeLine_eq]; omega
    have e : Ev (tVar 0) [some (V.str t), none] H (V.str t) := ev_var rfl
    refine el_rows (fun l => Txt.split l " ") (ei_nl (el_split e ev_c (by decide +kernel) (hz _ ht))) (by have := PyProof.Rows.split_le t "\n"; have := hz _ ht; omega) (fun x => rfl) (fun l hl => ?_) H (Ex.refl H) _ (fun p H2 hp e2 hr2 => k p H2 hp e2 hr2)
    exact el_split (ev_var rfl) ev_c (by decide +kernel) (hz _ (Nat.le_trans (split_part nl_ne.1 nl_ne.2 hl) ht))
open PySem PySem.Spec PyProof.Rows L2 Evl Hb TL
def lastGe (f : List Int) (n : Int) : Bool := match f.getLast? with
  | some x => decide (n ≤ x)
  | none => false
def numsGo (asc : Bool) : List Str → Nat → List Int → Except Nat (List Int)
  | [], _, f => .ok f
  | w :: r, i, f => if isNum w then (if asc && lastGe f (numOf w) then .error i else numsGo asc r (i + 1) (f ++ [numOf w])) else .error i
def numsAll (ws : List Str) (least : Int) (asc : Bool) : Except Nat (List Int) := match numsGo asc (ws.drop 1) 1 [] with
  | .error i => .error i
  | .ok f => if (f.length : Int) < least then .error ws.length else .ok f
def sp_read_numbers (K : PySem.W.Frag) : Sp := fun vs H Q E => ∃ (line : Int) (p : Addr) (ws : List Str) (least : Int) (asc : Bool), vs = [.int line, .ref p, .int 1, .int least, .bl asc] ∧ SqL K H p (ws.map V.str) ∧ Short ws ∧ ws.length ≤ 95000 ∧
  (∀ f, numsAll ws least asc = .ok f → RetL (f.map V.int) H Q) ∧ ∀ j : Nat, numsAll ws least asc = .error j → RaiseX (C_BadText K) [("word", .int j), ("line", .int line)] H E
theorem atI_last {f : List Int} {x : Int} (h : f.getLast? = some x) : atI (f.map V.int) (-1) = some (V.int x) := by
  have hl : f ≠ [] := fun z => by rw [z] at h; cases h
  have h0 : 0 < f.length := List.length_pos_iff.mpr hl
  have e : f[f.length - 1]? = some x := by rw [← List.getLast?_eq_getElem?]; exact h
  have h2 : ¬ (-1 : Int) ≥ 0 := by omega
  unfold atI ixN
  simp only [List.length_map]
  have e3 : (-1 + ((f.length : Nat) : Int)).toNat = f.length - 1 := by omega
  have e4 : (1 : Int) ≤ (f.length : Nat) := by omega
  simp [e, h0, e3, e4]
theorem ev_last {K : PySem.W.Frag} {ta tb : TE} {σ : L2.St} {H : Hp} {p : Addr} {f : List Int} {n : Int} {tn : TE} (h : Ev ta σ H (.ref p)) (hp : SqL K H p (f.map V.int)) (hn : Ev tn σ H (.int n)) (hi : Ev tb σ H (.int (-1))) (hl : ((f.length : Nat) : Int) > 0) :
    Ev (tOp (rI0 fun i j => .bl (decide (i ≤ j))) tn (tOp (rIxL K) ta tb)) σ H (.bl (lastGe f n)) := by
  cases e : f.getLast? with
  | none =>
    have : f = [] := List.getLast?_eq_none_iff.mp e
    rw [this] at hl
    exact absurd hl (by decide)
  | some x =>
    have e2 : lastGe f n = decide (n ≤ x) := by unfold lastGe; rw [e]
    rw [e2]
    exact ev_op hn (ev_op h hi (rv_ixL hp (atI_last e))) rv_I0
theorem last_nil {f : List Int} {n : Int} (h : ¬ ((f.length : Nat) : Int) > 0) : lastGe f n = false := by
  have : f = [] := by
    cases f with
    | nil => rfl
    | cons a r => exact absurd (show (((a :: r).length : Nat) : Int) > 0 by rw [List.length_cons]; omega) h
  subst this
  rfl
theorem last_and {f : List Int} {n : Int} : (decide (((f.length : Nat) : Int) > 0) && lastGe f n) = lastGe f n := by
  by_cases h : ((f.length : Nat) : Int) > 0
  · rw [decide_eq_true h, Bool.true_and]
  · rw [decide_eq_false h, last_nil h]; rfl
theorem numsGo_step {asc : Bool} {ws : List Str} {i : Nat} {f : List Int} {w : Str} (h : ws[i]? = some w) : numsGo asc (ws.drop i) i f = if isNum w then (if asc && lastGe f (numOf w) then .error i else numsGo asc (ws.drop (i + 1)) (i + 1) (f ++ [numOf w])) else .error i := by
  obtain ⟨hw, rfl⟩ := List.getElem?_eq_some_iff.mp h
  rw [List.drop_eq_getElem_cons hw]
  rfl
theorem isNum_dig {z : Str} (h : isNum z = true) : 1 ≤ z.length ∧ z.length ≤ 3 ∧ z.cps.toList.all digC = true := by
  unfold isNum at h
  simp only [Bool.and_eq_true, Bool.not_eq_true', Bool.or_eq_false_iff, decide_eq_false_iff_not, Bool.not_eq_false'] at h
  obtain ⟨⟨h1, h2, h3⟩, _⟩ := h
  exact ⟨by omega, by omega, h3⟩
theorem rc_num {H : Hp} {z : Str} (h : isNum z = true) : RC (fun xs H Q => ∃ a n, xs = [V.str a] ∧ PySem.intText? a = some n ∧ a.length ≤ 640 ∧ Q (.int n) H) [.str z] H (.int (numOf z)) :=
  rc_int_str (num_of (isNum_dig h).1 (by have := (isNum_dig h).2.1; omega) (isNum_dig h).2.2) (by have := (isNum_dig h).2.1; omega)
theorem ok_read_numbers {P : Program} {w : World} {K : PySem.W.Frag} {mg : Str → Option Value} {base : Heap} (T : Txt P K mg) : Rr.FnK P w K mg base (L2.CX P w) 3 (f_read_numbers K) 3 ["least", "ascending"] (sp_read_numbers K) := by
  obtain ⟨fd, F⟩ := T.F_read_numbers
  have F_is_number := ok_is_number (w := w) (base := base) T
  obtain ⟨_, kb⟩ := Rr.kb_all (ps := ["line", "words", "low", "least", "ascending"]) F 3 ["least", "ascending"] (by simp) (fun D doc pm an cdv ct us ws l1 l2 => match us, ws, l1, l2 with | [_, _, _], [_, _], _, _ => rfl)
  refine Rr.fnK_ok (F.ok sc_read_numbers (fun vs H Q E h => ?_) (fun cdv A outer s H vs Q E hr h => ?_)) kb
  · obtain ⟨line, p, ws, least, asc, rfl, _⟩ := h
    rfl
  · obtain ⟨line, p, ws, least, asc, rfl, h⟩ := h
    have hr_is_number : Room 1 _ := hr.mono (by decide)
    refine ⟨_, (pss_cons (ps_set (i := 5) sc_read_numbers.nd rfl (Or.inl rfl) (pe_lst pa_nil))
      (pss_cons (ps_for (passes_of rfl) rfl (pi_range2 rfl T.b_range (pa_cons (pv 2) (pa_cons (pe_callB call_len_seq rfl T.b_len (by decide +kernel) (pa_cons (pv 1) pa_nil)) pa_nil))) (pg_name (i := 6) sc_read_numbers.nd rfl (Or.inl rfl)) (pss_cons (ps_if (pt_not (pt_val (Rr.pe_cR F_is_number hr_is_number T.k_is_number T.g_is_number Rr.pass0 (pa_cons (pe_ix ix_list (pv 1) (pv 6) (fun _ _ => rfl)) pa_nil)))) (pss_one (SupX.ps_raiseSup rfl T.x_BadText hr (takes_of rfl rfl rfl rfl) (pa_cons (pv 0) (pa_cons (pv 6) pa_nil)))) pss_nil)
      (pss_cons (ps_set (i := 7) sc_read_numbers.nd rfl (Or.inl rfl) (pe_callTy call_int_str rfl T.b_int (by decide +kernel) (pa_cons (pe_ix ix_list (pv 1) (pv 6) (fun _ _ => rfl)) pa_nil)))
      (pss_cons (ps_if (PW.pt (pw_and (pt_val (pv 4)) (pw_and (pt_cmpR op_gt (pe_callB call_len_seq rfl T.b_len (by decide +kernel) (pa_cons (pv 5) pa_nil)) pe_int (nomark _)) (pw_and1 (pt_cmpR op_le (pv 7) (pe_ix ix_list (pv 5) (pe_un un_neg pe_int) (fun _ _ => rfl)) (nomark _)))))) (pss_one (SupX.ps_raiseSup rfl T.x_BadText hr (takes_of rfl rfl rfl rfl) (pa_cons (pv 0) (pa_cons (pv 6) pa_nil)))) pss_nil)
      (pss_one (ps_expr (pe_bm PySem.F.plainAttrs_list PySem.F.slot_list_append PySem.F.type_list_append mt_append (pv 5) (pa_cons (pv 7) pa_nil))))))))
      (pss_cons (ps_if (pt_cmpR op_lt (pe_callB call_len_seq rfl T.b_len (by decide +kernel) (pa_cons (pv 5) pa_nil)) (pv 3) (nomark _)) (pss_one (SupX.ps_raiseSup rfl T.x_BadText hr (takes_of rfl rfl rfl rfl) (pa_cons (pv 0) (pa_cons (pe_callB call_len_seq rfl T.b_len (by decide +kernel) (pa_cons (pv 1) pa_nil)) pa_nil)))) pss_nil)
      (pss_one (ps_ret (pv 5)))))), ?_⟩
    obtain ⟨hp, sw, hl, k1, k2⟩ := h
    show tSeq _ _ _ [some (V.int line), some (.ref p), some (.int 1), some (.int least), some (.bl asc), none, none, none] H
    refine q_asgL (xs := []) (el_lst ea_nil (by simp)) fun D H1 hD e1 h1 => ?_
    have elen : Ev _ _ _ _ := ev_cb (σ := [some (V.int line), some (.ref p), some (.int 1), some (.int least), some (.bl asc), some (.ref D), none, none]) (ea_cons (ev_var (i := 1) rfl) ea_nil) (rc_len_l (K := K) (ex_l e1 hp))
    refine q_forR2 (lo := 1) (n := ((ws.map V.str).length : Nat)) (ea_cons (ev_var rfl) (ea_cons elen ea_nil)) (by rw [List.length_map]; omega) (fun i σ H' => ∃ f x y, σ = [some (V.int line), some (.ref p), some (.int 1), some (.int least), some (.bl asc), some (.ref D), x, y] ∧ H' D = some (.lst (f.map V.int)) ∧ Ex H H' ∧ f.length = i ∧ numsGo asc (ws.drop 1) 1 [] = numsGo asc (ws.drop (i + 1)) (i + 1) f) (fun H2 e2 => ⟨[], _, _, rfl, e2 D _ h1, e1.trans e2, rfl, rfl⟩) (fun i σ H' hi q => ?_) (fun σ H' q => ?_)
    · obtain ⟨f, x, y, rfl, hd, e, hfl, hg⟩ := q
      rw [List.length_map] at hi
      have hlt : i + 1 < ws.length := by omega
      have hw : ws[i + 1]? = some ws[i + 1] := List.getElem?_eq_getElem hlt
      generalize ws[i + 1] = w at hw
      rw [numsGo_step hw] at hg
      have hat : atI (ws.map V.str) (1 + (i : Int)) = some (V.str w) := by
        have := atI_map hw
        rw [show (1 + (i : Int)) = ((i + 1 : Nat) : Int) by omega]
        exact this
      have hp2 := ex_l e hp
      have hwl : w.length ≤ sizeLine := sw _ (List.mem_of_getElem? hw)
      show tSeq _ _ _ [some (V.int line), some (.ref p), some (.int 1), some (.int least), some (.bl asc), some (.ref D), some (.int (1 + (i : Int))), y] H'
      have hraise : ∀ H2, Ex H H2 → numsAll ws least asc = .error (i + 1) → SupX.tMkSup (C_BadText K) ["line", "word"] (tCons (tVar 0) (tCons (tVar 6) tNil)) [some (V.int line), some (.ref p), some (.int 1), some (.int least), some (.bl asc), some (.ref D), some (.int (1 + (i : Int))), y] H2 E := fun H2 eH hb => by
        refine s_raise (vs := [.int line, .int (1 + (i : Int))]) (ea_cons (ev_var rfl) (ea_cons (ev_var rfl) ea_nil)) rfl ?_
        have := (k2 (i + 1) hb).mono eH
        rw [show (1 + (i : Int)) = ((i + 1 : Nat) : Int) by omega]
        exact this
      refine q_when (b := !isNum w) (et_not (et_test (ev_R (ea_cons (ev_op (ev_var rfl) (ev_var rfl) (rv_ixL hp2 hat)) ea_nil) (sv_is_number hwl)))) (fun hb H2 e2 => ?_) (fun hb H2 e2 => ?_)
      · have hb : isNum w = false := by simpa using hb
        rw [hb] at hg
        exact hraise H2 (e.trans e2) (by unfold numsAll; rw [hg]; rfl)
      · have hb : isNum w = true := by simpa using hb
        rw [if_pos hb] at hg
        refine q_asg (v := .int (numOf w)) (ev_cb (ea_cons (ev_op (ev_var rfl) (ev_var rfl) (rv_ixL (ex_l e2 hp2) hat)) ea_nil) (rc_num hb)) fun H3 e3 => ?_
        show tSeq _ _ _ [some (V.int line), some (.ref p), some (.int 1), some (.int least), some (.bl asc), some (.ref D), some (.int (1 + (i : Int))), some (.int (numOf w))] H3
        have hd3 : H3 D = some (.lst (f.map V.int)) := e3 D _ (e2 D _ hd)
        refine q_when (b := asc && lastGe f (numOf w)) (et_is (et_and (et_test (ev_var rfl)) fun _ => et_and (a := decide (((f.map V.int).length : Int) > 0)) (b := lastGe f (numOf w)) ?_ fun hl => ?_) ?_) (fun hb2 H4 e4 => ?_) (fun hb2 H4 e4 => ?_)
        · exact et_B (ev_op (ev_cb (ea_cons (ev_var rfl) ea_nil) (rc_len_l (sq_of hd3))) ev_c rv_I0)
        · rw [decide_eq_true_iff, List.length_map] at hl
          exact et_B (ev_last (ev_var rfl) (sq_of hd3) (ev_var rfl) (ev_un ev_c ru_neg) hl)
        · rw [List.length_map, last_and]
        · rw [if_pos hb2] at hg
          exact hraise H4 (((e.trans e2).trans e3).trans e4) (by unfold numsAll; rw [hg])
        · rw [hb2] at hg
          refine s_app (xs := f.map V.int) (e4 D _ hd3) (ev_var rfl) (ev_var rfl) (by rw [List.length_map]; omega) fun H5 e5 => ⟨f ++ [numOf w], _, _, rfl, ?_, ?_, ?_, ?_⟩
          · rw [List.map_append]; exact upd_same
          · exact Ex.mut ((((e.trans e2).trans e3).trans e4).trans e5) (fresh_back (Ex.refl H) hD)
          · rw [List.length_append, hfl]; rfl
          · rw [hg]; rfl
    · obtain ⟨f, x, y, rfl, hd, e, hfl, hg⟩ := q
      have hml : (ws.map V.str).length = ws.length := List.length_map _
      have hn : numsGo asc (ws.drop 1) 1 [] = .ok f := by
        rw [hg, List.drop_eq_nil_of_le (by omega)]
        rfl
      refine q_when (b := decide (((f.map V.int).length : Int) < least)) (et_B (ev_op (ev_cb (ea_cons (ev_var rfl) ea_nil) (rc_len_l (sq_of hd))) (ev_var rfl) rv_I0)) (fun hb H2 e2 => ?_) (fun hb H2 e2 => ?_)
      · rw [decide_eq_true_iff, List.length_map] at hb
        show SupX.tMkSup _ _ _ _ _ _
        refine s_raise (vs := [.int line, .int ((ws.map V.str).length : Nat)]) (ea_cons (ev_var rfl) (ea_cons (ev_cb (ea_cons (ev_var rfl) ea_nil) (rc_len_l (ex_l (e.trans e2) hp))) ea_nil)) rfl ?_
        have := (k2 ws.length (by unfold numsAll; rw [hn]; exact if_pos hb)).mono (e.trans e2)
        rw [List.length_map]
        exact this
      · rw [decide_eq_false_iff_not, List.length_map] at hb
        have hk := k1 f (by unfold numsAll; rw [hn]; exact if_neg hb)
        exact s_ret (ev_var rfl) fun H3 e3 => hk D H3 hD ((e.trans e2).trans e3) (e3 D _ (e2 D _ hd))
open PySem PySem.Spec PyProof.Rows L2 Evl Hb TL
abbrev rdF (l : Addr) (n : Nat) : List (Str × V) := [("lines", .ref l), ("at", .int (n : Nat))]
structure RdAt (K : PySem.W.Frag) (H : Hp) (r dx l : Addr) (rows : List (List Str)) (n : Nat) : Prop where
  ob : H r = some (.ins (C_Reader K) dx (rdF l n))
  rw : Rows H l rows
theorem RdAt.ex {K : PySem.W.Frag} {H H' : Hp} {r dx l : Addr} {rows : List (List Str)} {n : Nat} (h : RdAt K H r dx l rows n) (e : Ex H H') : RdAt K H' r dx l rows n := ⟨e r _ h.ob, h.rw.ex e⟩
theorem RdAt.exr {K : PySem.W.Frag} {H H' : Hp} {r dx l : Addr} {rows : List (List Str)} {n m : Nat} (h : RdAt K H r dx l rows n) (e : Exr r H H') (h2 : H' r = some (.ins (C_Reader K) dx (rdF l m))) : RdAt K H' r dx l rows m := ⟨h2, h.rw.exr h.ob e⟩
def begins (rows : List (List Str)) (n : Nat) (w : Str) : Bool := match rows[n]? with
  | some (x :: _) => decide (x = w)
  | _ => false
def takeR (rows : List (List Str)) (n : Nat) (w : Str) : Except (Nat × Nat) (List Str) := if begins rows n w then .ok (rows[n]?.getD []) else .error (n, 0)
def fixedR (rows : List (List Str)) (n : Nat) (w : Str) (ks : List Str) : Except (Nat × Nat) (List Str) := match takeR rows n w with
  | .error e => .error e
  | .ok ws => match bad ws (("=" ++ w) :: ks) 0 with
    | some j => .error (n, j)
    | none => .ok ws
def numbersR (rows : List (List Str)) (n : Nat) (w : Str) (least : Int) (asc : Bool) : Except (Nat × Nat) (List Int) := match takeR rows n w with
  | .error e => .error e
  | .ok ws => match numsAll ws least asc with
    | .error j => .error (n, j)
    | .ok f => .ok f
def errF (ln w : Nat) : List (Str × V) := [("word", .int (w : Nat)), ("line", .int (ln : Nat))]
def Res (K : PySem.W.Frag) (r dx l : Addr) (m : Nat) {α : Type} (x : Except (Nat × Nat) α) (rep : α → V → Hp → Prop) (H : Hp) (Q : VK) (E : XK) : Prop :=
  (∀ ln w, x = .error (ln, w) → RaiseXr r (C_BadText K) (errF ln w) H E) ∧ ∀ a, x = .ok a → ∀ v H2, Exr r H H2 → H2 r = some (.ins (C_Reader K) dx (rdF l m)) → rep a v H2 → Q v H2
theorem Res.mono {K : PySem.W.Frag} {r dx l : Addr} {m : Nat} {α : Type} {x : Except (Nat × Nat) α} {rep : α → V → Hp → Prop} {H H' : Hp} {Q : VK} {E : XK} (h : Res K r dx l m x rep H Q E) (e : Exr r H H') : Res K r dx l m x rep H' Q E :=
  ⟨fun ln w q => (h.1 ln w q).mono e, fun a q v H2 e2 h2 p => h.2 a q v H2 (e.trans e2) h2 p⟩
def repL (ws : List Str) (v : V) (H : Hp) : Prop := ∃ p, v = .ref p ∧ H p = some (.lst (ws.map V.str))
def repN (f : List Int) (v : V) (H : Hp) : Prop := ∃ p, v = .ref p ∧ H p = some (.lst (f.map V.int))
section
variable {K : PySem.W.Frag} {P : Program} {mg : Str → Option Value} {σ : L2.St} {H : Hp} {te : TE} {r dx l : Addr} {rows : List (List Str)} {n : Nat}
theorem ev_rlines (T : Txt P K mg) (h : Ev te σ H (.ref r)) (R : RdAt K H r dx l rows n) : Ev (tFld K te "lines") σ H (.ref l) := ev_fld h R.ob T.cl_Reader T.n_Reader_lines rfl
theorem ev_rat (T : Txt P K mg) (h : Ev te σ H (.ref r)) (R : RdAt K H r dx l rows n) : Ev (tFld K te "at") σ H (.int n) := ev_fld h R.ob T.cl_Reader T.n_Reader_at rfl
theorem ev_rlen {tf : TE} (h : Ev tf σ H (.ref l)) (R : Rows H l rows) : Ev (tCB (fun xs H Q => ∃ p ys, xs = [V.ref p] ∧ (SqL K H p ys ∨ SqT K H p ys) ∧ Q (.int ys.length) H) (tCons tf tNil)) σ H (.int rows.length) := by
  obtain ⟨as, h1, h2, _⟩ := R
  refine ev_is (ev_cb (ea_cons h ea_nil) (rc_len_l (sq_of h1))) ?_
  rw [List.length_map, h2]
theorem rv_row {ws : List Str} {a : Addr} {as : List Addr} {i : Nat} (h1 : H l = some (.lst (as.map V.ref))) (ha : as[i]? = some a) : RV (rIxL K) (.ref l) (.int i) H (.ref a) := rv_ixL (sq_of h1) (atI_nat (by rw [List.getElem?_map, ha]; rfl))
end
def sp_Reader_init (K : PySem.W.Frag) : Sp := fun vs H Q _ => ∃ (r : Addr) (t : Str) (dx : Addr), vs = [.ref r, .str t] ∧ H r = some (.ins (C_Reader K) dx []) ∧ t.length ≤ 90000 ∧ ∀ l H2, Exr r H H2 → RdAt K H2 r dx l (rowsOf t) 0 → Q .non H2
theorem ok_Reader___init__ {P : Program} {w : World} {K : PySem.W.Frag} {mg : Str → Option Value} {base : Heap} (T : Txt P K mg) : FnR P w K mg base (CX0) 2 (f_Reader___init__ K) (sp_Reader_init K) := by
  obtain ⟨fd, F⟩ := T.F_Reader___init__
  have F_split_lines := ok_split_lines (w := w) (base := base) T
  refine Rr.fnR_ok (F.ok sc_Reader___init__ (fun vs H Q E h => ?_) (fun cdv A outer s H vs Q E hr h => ?_)) (F.bindsN fun _ _ _ _ _ _ us hl => match us, hl with | [_, _], _ => rfl)
  · obtain ⟨r, t, dx, rfl, _⟩ := h
    rfl
  · obtain ⟨r, t, dx, rfl, h⟩ := h
    have hr_split_lines : Room 1 _ := hr.mono (by decide)
    refine ⟨_, PSs.nox (pss_cons (ps_fld (pv 0) (Rr.pe_cR F_split_lines hr_split_lines T.k_split_lines T.g_split_lines Rr.pass0 (pa_cons (pv 1) pa_nil)) rfl)
      (pss_one (ps_fld (pv 0) pe_int rfl))), ?_⟩
    obtain ⟨hr0, ht, k⟩ := h
    show tSeq _ _ _ [some (V.ref r), some (V.str t)] H
    refine q_seq ?_
    show Rr.tR _ _ _ _ _ _
    refine call_R (ea_cons (ev_var rfl) ea_nil) fun H1 e1 => ⟨t, rfl, ht, fun l H2 hl e2 R2 => ?_⟩
    have h2 := e2 r _ (e1 r _ hr0)
    refine ⟨.ref r, rfl, r, _, dx, _, rfl, h2, T.cl_Reader, T.n_Reader_lines, by simp, ?_⟩
    refine s_fld (v := .int 0) ev_c (ev_var rfl) (upd_same) T.cl_Reader T.n_Reader_at (by simp [putF]) fun H3 e3 => ?_
    have ee : Exr r H (upd H3 r (.ins (C_Reader K) dx (rdF l 0))) := (((Ex.toR (e1.trans e2)).trans (Exr.upd (Exr.refl r H2))).trans (Ex.toR e3)).trans (Exr.upd (Exr.refl r H3))
    refine k l _ ee ⟨upd_same, ?_⟩
    exact R2.exr h2 (((Exr.upd (Exr.refl r H2)).trans (Ex.toR e3)).trans (Exr.upd (Exr.refl r H3)))
def sp_Reader_begins (K : PySem.W.Frag) : Sp := fun vs H Q _ => ∃ (r : Addr) (word : Str) (dx l : Addr) (rows : List (List Str)) (n : Nat), vs = [.ref r, .str word] ∧ RdAt K H r dx l rows n ∧ Good rows ∧ RetV (.bl (begins rows n word)) H Q
theorem ok_Reader_begins {P : Program} {w : World} {K : PySem.W.Frag} {mg : Str → Option Value} {base : Heap} (T : Txt P K mg) : FnR P w K mg base (CX0) 1 (f_Reader_begins K) (sp_Reader_begins K) := by
  obtain ⟨fd, F⟩ := T.F_Reader_begins
  refine Rr.fnR_ok (F.ok sc_Reader_begins (fun vs H Q E h => ?_) (fun cdv A outer s H vs Q E hr h => ?_)) (F.bindsN fun _ _ _ _ _ _ us hl => match us, hl with | [_, _], _ => rfl)
  · obtain ⟨r, word, dx, l, rows, n, rfl, _⟩ := h
    rfl
  · obtain ⟨r, word, dx, l, rows, n, rfl, h⟩ := h
    refine ⟨_, PSs.nox (pss_one (ps_ret (pe_and (pe_cmpR op_lt (pe_fld (pv 0) rfl) (pe_callB call_len_seq rfl T.b_len (by decide +kernel) (pa_cons (pe_fld (pv 0) rfl) pa_nil)) (nomark _)) (pe_one (pe_cmpR op_eq (pe_ix ix_list (pe_ix ix_list (pe_fld (pv 0) rfl) (pe_fld (pv 0) rfl) (fun _ _ => rfl)) pe_int (fun _ _ => rfl)) (pv 1) (nomark _)))))), ?_⟩
    obtain ⟨R, G, k⟩ := h
    have e0 : Ev (tVar 0) [some (V.ref r), some (V.str word)] H (.ref r) := ev_var rfl
    refine s_ret (v := .bl (begins rows n word)) (ev_is (ev_andV (a := decide ((n : Int) < (rows.length : Nat))) (b := begins rows n word) ?_ fun hlt => ?_) ?_) k
    · exact ev_op (ev_rat T e0 R) (ev_rlen (ev_rlines T e0 R) R.rw) rv_I0
    · have hlt : n < rows.length := by
        rw [decide_eq_true_iff] at hlt
        omega
      have hi : rows[n]? = some rows[n] := List.getElem?_eq_getElem hlt
      obtain ⟨as, a, h1, h2, ha, h3⟩ := R.rw.get hi
      have hm : rows[n] ∈ rows := List.getElem_mem hlt
      generalize rows[n] = ws at hi h3 hm
      cases ws with
      | nil => exact absurd rfl (G.ne _ hm)
      | cons x ws =>
        have hb : begins rows n word = decide (V.str x = V.str word) := by
          unfold begins
          rw [hi, dec_str]
        rw [hb]
        exact ev_op (ev_op (ev_op (ev_rlines T e0 R) (ev_rat T e0 R) (rv_ixL (sq_of h1) (atI_nat (by rw [List.getElem?_map, ha]; rfl)))) ev_c (rv_ixL (v := .str x) (sq_of h3) (atI_nat (j := 0) rfl))) (ev_var rfl) (rv_eq rfl)
    · by_cases hlt : n < rows.length
      · rw [decide_eq_true (by omega), Bool.true_and]
      · have : begins rows n word = false := by
          unfold begins
          rw [List.getElem?_eq_none_iff.mpr (by omega)]
        rw [this, Bool.and_false]
def sp_Reader_take (K : PySem.W.Frag) : Sp := fun vs H Q E => ∃ (r : Addr) (word : Str) (dx l : Addr) (rows : List (List Str)) (n : Nat), vs = [.ref r, .str word] ∧ RdAt K H r dx l rows n ∧ Good rows ∧ Res K r dx l (n + 1) (takeR rows n word) repL H Q E
theorem ok_Reader_take {P : Program} {w : World} {K : PySem.W.Frag} {mg : Str → Option Value} {base : Heap} (T : Txt P K mg) : FnR P w K mg base (L2.CX P w) 3 (f_Reader_take K) (sp_Reader_take K) := by
  obtain ⟨fd, F⟩ := T.F_Reader_take
  have F_Reader_begins := ok_Reader_begins (w := w) (base := base) T
  refine Rr.fnR_ok (F.ok sc_Reader_take (fun vs H Q E h => ?_) (fun cdv A outer s H vs Q E hr h => ?_)) (F.bindsN fun _ _ _ _ _ _ us hl => match us, hl with | [_, _], _ => rfl)
  · obtain ⟨r, word, dx, l, rows, n, rfl, _⟩ := h
    rfl
  · obtain ⟨r, word, dx, l, rows, n, rfl, h⟩ := h
    have hr_Reader_begins : Room 1 _ := hr.mono (by decide)
    refine ⟨_, (pss_cons (ps_if (pt_not (pt_val (Rr.pe_mR (pv 0) T.cl_Reader T.m_Reader_begins F_Reader_begins hr_Reader_begins Rr.pass0 (pa_cons (pv 1) pa_nil)))) (pss_one (SupX.ps_raiseSup rfl T.x_BadText hr (takes_of rfl rfl rfl rfl) (pa_cons (pe_fld (pv 0) rfl) (pa_cons pe_int pa_nil)))) pss_nil)
      (pss_cons (ps_fldaug (pv 0) pe_int in_add)
      (pss_one (ps_ret (pe_ix ix_list (pe_fld (pv 0) rfl) (pe_op op_sub (pe_fld (pv 0) rfl) pe_int) (fun _ _ => rfl)))))), ?_⟩
    obtain ⟨R, G, k⟩ := h
    have e0 : ∀ H', Ev (tVar 0) [some (V.ref r), some (V.str word)] H' (.ref r) := fun H' => ev_var rfl
    show tSeq _ _ _ [some (V.ref r), some (V.str word)] H
    refine q_when (b := !begins rows n word) (et_not (et_test (ev_mR (e0 H) R.ob rfl (ea_cons (ev_var rfl) ea_nil) fun H1 e1 Q q E => ⟨r, word, dx, l, rows, n, rfl, R.ex e1, G, fun H2 e2 => q H2 e2⟩))) (fun hb H1 e1 => ?_) (fun hb H1 e1 => ?_)
    · have hb : begins rows n word = false := by simpa using hb
      have R1 := R.ex e1
      show SupX.tMkSup _ _ _ _ _ _
      refine s_raise (vs := [.int n, .int 0]) (ea_cons (ev_rat T (e0 H1) R1) (ea_cons ev_c ea_nil)) rfl ?_
      have := ((k.1 n 0 (by unfold takeR; rw [hb]; rfl)).mono (Ex.toR e1)).plain R1.ob
      exact this
    · have hb : begins rows n word = true := by simpa using hb
      have R1 := R.ex e1
      refine q_seq (s_fldaug (z := .int ((n + 1 : Nat) : Int)) (e0 H1) R1.ob T.cl_Reader T.n_Reader_at rfl ev_c (fun H' e' Q q => ⟨(n : Int), 1, rfl, rfl, q H' (Ex.refl H')⟩) (by simp) fun H2 e2 => ?_)
      have ee : Exr r H1 (upd H2 r (.ins (C_Reader K) dx (rdF l (n + 1)))) := (Ex.toR e2).trans (Exr.upd (Exr.refl r H2))
      have R2 : RdAt K (upd H2 r (.ins (C_Reader K) dx (rdF l (n + 1)))) r dx l rows (n + 1) := R1.exr ee upd_same
      obtain ⟨ws, hw⟩ : ∃ ws, rows[n]? = some ws := by
        cases q : rows[n]? with
        | none => unfold begins at hb; rw [q] at hb; cases hb
        | some ws => exact ⟨ws, rfl⟩
      obtain ⟨as, a, h1, h2, ha, h3⟩ := R2.rw.get hw
      have hat : atI (as.map V.ref) (((n + 1 : Nat) : Int) - 1) = some (.ref a) := by
        rw [show (((n + 1 : Nat) : Int) - 1) = (n : Nat) by omega]
        exact atI_nat (by rw [List.getElem?_map, ha]; rfl)
      refine s_ret (v := .ref a) (ev_op (ev_rlines T (e0 _) R2) (ev_op (ev_rat T (e0 _) R2) ev_c rv_I0) (rv_ixL (sq_of h1) hat)) fun H3 e3 => ?_
      exact k.2 ws (by unfold takeR; rw [hb, hw]; rfl) _ H3 (((Ex.toR e1).trans ee).trans (Ex.toR e3)) (e3 r _ upd_same) ⟨a, rfl, e3 a _ h3⟩
open PySem PySem.Spec PyProof.Rows L2 Evl Hb TL
theorem takeR_ok {rows : List (List Str)} {n : Nat} {w : Str} {ws : List Str} (h : takeR rows n w = .ok ws) : ws ∈ rows ∧ rows[n]? = some ws ∧ begins rows n w = true := by
  unfold takeR at h
  cases hb : begins rows n w with
  | false => rw [hb] at h; cases h
  | true =>
    rw [hb] at h
    cases q : rows[n]? with
    | none => unfold begins at hb; rw [q] at hb; cases hb
    | some x =>
      rw [q] at h
      cases h
      exact ⟨List.mem_of_getElem? q, rfl, rfl⟩
theorem Good.short {rows : List (List Str)} (G : Good rows) {ws : List Str} (h : ws ∈ rows) : Short ws := fun w hw => Nat.le_trans (G.sh ws h w hw) (by rw [sizeLine_eq]; omega)
section
variable {K : PySem.W.Frag} {P : Program} {mg : Str → Option Value} {σ : L2.St} {H : Hp} {te : TE} {r dx l : Addr} {rows : List (List Str)} {n : Nat}
theorem ev_rat1 (T : Txt P K mg) (h : Ev te σ H (.ref r)) (R : RdAt K H r dx l rows (n + 1)) : Ev (tOp (rI0 fun i j => .int (i - j)) (tFld K te "at") (tC (.int 1))) σ H (.int n) := by
  refine ev_is (ev_op (ev_rat T h R) ev_c rv_I0) ?_
  show V.int (((n + 1 : Nat) : Int) - 1) = V.int n
  rw [show ((n + 1 : Nat) : Int) - 1 = (n : Int) by omega]
end
theorem len_app (a b : Str) : (a ++ b).length = a.length + b.length := Array.size_append
def sp_Reader_fixed (K : PySem.W.Frag) : Sp := fun vs H Q E => ∃ (r : Addr) (word : Str) (pk : Addr) (dx l : Addr) (rows : List (List Str)) (n : Nat) (ks : List Str), vs = [.ref r, .str word, .ref pk] ∧ H pk = some (.tup (ks.map V.str)) ∧ RdAt K H r dx l rows n ∧ Good rows ∧
  word.length ≤ 100 ∧ ks.length ≤ 100 ∧ (∀ k ∈ ks, k.length ≤ 100) ∧ Res K r dx l (n + 1) (fixedR rows n word ks) repL H Q E
theorem sz100 {n : Nat} (h : n ≤ 101) : n ≤ sizeLine := Nat.le_trans h (by rw [sizeLine_eq]; omega)
theorem ok_Reader_fixed {P : Program} {w : World} {K : PySem.W.Frag} {mg : Str → Option Value} {base : Heap} (T : Txt P K mg) : FnR P w K mg base (L2.CX P w) 4 (f_Reader_fixed K) (Hb.starSp 2 (sp_Reader_fixed K)) := by
  obtain ⟨fd, F⟩ := T.F_Reader_fixed
  have F_Reader_take := ok_Reader_take (w := w) (base := base) T
  have F_check_line := ok_check_line (w := w) (base := base) T
  refine Rr.fnS (ps := ["self", "word"]) (pv := "kinds") (sp := sp_Reader_fixed K) F sc_Reader_fixed StX.cxUp (fun kV doc pm an cdv ct => StX.bind_star2 (B := fun l => bindArgs (PySem.W.fnOf "fixed" "Reader.fixed" (defArgs s_Reader_fixed) (defBody s_Reader_fixed) (defScope s_Reader_fixed) .none kV doc pm an cdv ct) ⟨l, []⟩) (fun a b => rfl) (fun a b r rs => rfl)) (fun cdv A outer s H vs Q E hr h => ?_)
  · obtain ⟨r, word, pk, dx, l, rows, n, ks, rfl, h⟩ := h
    have hr_Reader_take : Room 3 _ := hr.mono (by decide)
    have hr_check_line : Room 3 _ := hr.mono (by decide)
    refine ⟨_, (pss_cons (ps_set (i := 3) sc_Reader_fixed.nd rfl (Or.inl rfl) (Rr.pe_mR (pv 0) T.cl_Reader T.m_Reader_take F_Reader_take hr_Reader_take (Rr.passW (takes_of rfl rfl rfl rfl)) (pa_cons (pv 1) pa_nil)))
      (pss_cons (ps_expr (Rr.pe_cR F_check_line hr_check_line T.k_check_line T.g_check_line (Rr.passW (takes_of rfl rfl rfl rfl)) (pa_cons (pe_op op_sub (pe_fld (pv 0) rfl) pe_int) (pa_cons (pv 3) (pa_cons (pe_lst (pa_cons (pe_joined (PJ.cons pe_str (PJ.cons (pe_fmt (pv 1)) PJ.nil))) (StX.pa_star (pv 2) pa_nil))) pa_nil)))))
      (pss_one (ps_ret (pv 3))))), ?_⟩
    obtain ⟨hk, R, G, hw, hkl, hks, k⟩ := h
    show tSeq _ _ _ [some (V.ref r), some (V.str word), some (V.ref pk), none] H
    refine q_asgG (call_mR (ev_var rfl) R.ob rfl (ea_cons (ev_var rfl) ea_nil) fun H1 e1 => ⟨r, word, dx, l, rows, n, rfl, R.ex e1, G, fun ln w q => ?_, fun ws q v H2 e2 h2 hv => ?_⟩)
    · exact (k.1 ln w (by unfold fixedR; rw [q])).mono (Ex.toR e1)
    · obtain ⟨p, rfl, hp⟩ := hv
      obtain ⟨hm, hi, hb⟩ := takeR_ok q
      have eH : Exr r H H2 := (Ex.toR e1).trans e2
      have R2 : RdAt K H2 r dx l rows (n + 1) := R.exr eH h2
      have hk2 := eH pk _ (ne_of hk R.ob (by simp)) hk
      show tSeq _ _ _ [some (V.ref r), some (V.str word), some (V.ref pk), some (.ref p)] H2
      refine q_dropG ?_
      refine ev_rat1 T (ev_var rfl) R2 H2 (Ex.refl H2) _ fun H3 e3 => (ev_var (i := 3) rfl) H3 (Ex.refl H3) _ fun H4 e4 => el_lst (ea_cons (ev_js2 (a := "=") (b := word) ev_c (ev_fmt (ev_var rfl) (sz100 (by omega))) (show (1 : Nat) + word.length ≤ sizeLine from sz100 (by omega))) (ea_star (ev_var rfl) (.inl (st_of hk2)) ea_nil)) (by simp; omega) H4 (e3.trans e4) _ fun q3 H5 h5n e5 h5 => ?_
      have e25 := (e3.trans e4).trans e5
      rw [List.append_nil] at h5
      refine ⟨n, p, q3, ws, ("=" ++ word) :: ks, rfl, sq_of (e25 p _ hp), sq_of h5, G.short hm, fun x hx => ?_, fun hbn H6 e6 => ?_, fun j hj => ?_⟩
      · rcases List.mem_cons.mp hx with rfl | hx
        · rw [len_app]
          exact sz100 (show (1 : Nat) + word.length ≤ 101 by omega)
        · exact sz100 (by have := hks x hx; omega)
      · refine s_ret (ev_var rfl) fun H7 e7 => ?_
        have e27 := (e25.trans e6).trans e7
        exact k.2 ws (by unfold fixedR; rw [q]; show (match bad ws (("=" ++ word) :: ks) 0 with | some j => Except.error (n, j) | none => Except.ok ws) = _; rw [hbn]) _ H7 (eH.trans (Ex.toR e27)) (e27 r _ h2) ⟨p, rfl, e27 p _ hp⟩
      · have := ((k.1 n j (by unfold fixedR; rw [q]; show (match bad ws (("=" ++ word) :: ks) 0 with | some j => Except.error (n, j) | none => Except.ok ws) = _; rw [hj])).mono (eH.trans (Ex.toR e25))).plain (e25 r _ h2)
        exact this
def sp_Reader_numbers (K : PySem.W.Frag) : Sp := fun vs H Q E => ∃ (r : Addr) (word : Str) (least : Int) (asc : Bool) (dx l : Addr) (rows : List (List Str)) (n : Nat), vs = [.ref r, .str word, .int least, .bl asc] ∧ RdAt K H r dx l rows n ∧ Good rows ∧ Res K r dx l (n + 1) (numbersR rows n word least asc) repN H Q E
theorem ok_Reader_numbers {P : Program} {w : World} {K : PySem.W.Frag} {mg : Str → Option Value} {base : Heap} (T : Txt P K mg) : FnR P w K mg base (L2.CX P w) 4 (f_Reader_numbers K) (sp_Reader_numbers K) := by
  obtain ⟨fd, F⟩ := T.F_Reader_numbers
  have F_Reader_take := ok_Reader_take (w := w) (base := base) T
  have F_read_numbers := ok_read_numbers (w := w) (base := base) T
  refine Rr.fnR_ok (F.ok sc_Reader_numbers (fun vs H Q E h => ?_) (fun cdv A outer s H vs Q E hr h => ?_)) (F.bindsN fun _ _ _ _ _ _ us hl => match us, hl with | [_, _, _, _], _ => rfl)
  · obtain ⟨r, word, least, asc, dx, l, rows, n, rfl, _⟩ := h
    rfl
  · obtain ⟨r, word, least, asc, dx, l, rows, n, rfl, h⟩ := h
    have hr_Reader_take : Room 3 _ := hr.mono (by decide)
    have hr_read_numbers : Room 3 _ := hr.mono (by decide)
    refine ⟨_, (pss_cons (ps_set (i := 4) sc_Reader_numbers.nd rfl (Or.inl rfl) (Rr.pe_mR (pv 0) T.cl_Reader T.m_Reader_take F_Reader_take hr_Reader_take (Rr.passW (takes_of rfl rfl rfl rfl)) (pa_cons (pv 1) pa_nil)))
      (pss_one (ps_ret (Rr.pe_nR F_read_numbers hr_read_numbers T.k_read_numbers T.g_read_numbers (Rr.passW (takes_of rfl rfl rfl rfl)) (pa_cons (pe_op op_sub (pe_fld (pv 0) rfl) pe_int) (pa_cons (pv 4) (pa_cons pe_int pa_nil))) (pk_cons (pv 2) (pk_cons (pv 3) pk_nil)))))), ?_⟩
    obtain ⟨R, G, k⟩ := h
    show tSeq _ _ _ [some (V.ref r), some (V.str word), some (.int least), some (.bl asc), none] H
    refine q_asgG (call_mR (ev_var rfl) R.ob rfl (ea_cons (ev_var rfl) ea_nil) fun H1 e1 => ⟨r, word, dx, l, rows, n, rfl, R.ex e1, G, fun ln w q => ?_, fun ws q v H2 e2 h2 hv => ?_⟩)
    · exact (k.1 ln w (by unfold numbersR; rw [q])).mono (Ex.toR e1)
    · obtain ⟨p, rfl, hp⟩ := hv
      obtain ⟨hm, hi, hb⟩ := takeR_ok q
      have eH : Exr r H H2 := (Ex.toR e1).trans e2
      have R2 : RdAt K H2 r dx l rows (n + 1) := R.exr eH h2
      refine s_retG (call_nR (vs := [.int n, .ref p, .int 1]) (zs := [.int least, .bl asc]) (ea_cons (ev_rat1 T (ev_var rfl) R2) (ea_cons (ev_var rfl) (ea_cons ev_c ea_nil))) (ea_cons (ev_var rfl) (ea_cons (ev_var rfl) ea_nil)) rfl rfl fun H3 e3 => ?_)
      refine ⟨n, p, ws, least, asc, rfl, sq_of (e3 p _ hp), G.short hm, Nat.le_trans (G.wid ws hm) (by decide), fun f hf p2 H4 hp2 e4 h4 => ?_, fun j hj => ?_⟩
      · exact k.2 f (by unfold numbersR; rw [q]; show (match numsAll ws least asc with | .error j => Except.error (n, j) | .ok f => Except.ok f) = _; rw [hf]) _ H4 (eH.trans (Ex.toR (e3.trans e4))) (e4 r _ (e3 r _ h2)) ⟨p2, rfl, h4⟩
      · have := ((k.1 n j (by unfold numbersR; rw [q]; show (match numsAll ws least asc with | .error j => Except.error (n, j) | .ok f => Except.ok f) = _; rw [hj])).mono (eH.trans (Ex.toR e3))).plain (e3 r _ h2)
        exact this
def sp_Reader_ascends (K : PySem.W.Frag) : Sp := fun vs H Q E => ∃ (r p : Addr) (num : Int) (dx l : Addr) (rows : List (List Str)) (n : Nat) (f : List Int), vs = [.ref r, .ref p, .int num] ∧ RdAt K H r dx l rows (n + 1) ∧ SqL K H p (f.map V.int) ∧
  (lastGe f num = true → RaiseX (C_BadText K) (errF n 1) H E) ∧ (lastGe f num = false → RetV .non H Q)
theorem ok_Reader_ascends {P : Program} {w : World} {K : PySem.W.Frag} {mg : Str → Option Value} {base : Heap} (T : Txt P K mg) : FnR P w K mg base (L2.CX P w) 3 (f_Reader_ascends K) (sp_Reader_ascends K) := by
  obtain ⟨fd, F⟩ := T.F_Reader_ascends
  refine Rr.fnR_ok (F.ok sc_Reader_ascends (fun vs H Q E h => ?_) (fun cdv A outer s H vs Q E hr h => ?_)) (F.bindsN fun _ _ _ _ _ _ us hl => match us, hl with | [_, _, _], _ => rfl)
  · obtain ⟨r, p, num, dx, l, rows, n, f, rfl, _⟩ := h
    rfl
  · obtain ⟨r, p, num, dx, l, rows, n, f, rfl, h⟩ := h
    refine ⟨_, (pss_one (ps_if (PW.pt (pw_and (pt_cmpR op_gt (pe_callB call_len_seq rfl T.b_len (by decide +kernel) (pa_cons (pv 1) pa_nil)) pe_int (nomark _)) (pw_and1 (pt_cmpR op_le (pv 2) (pe_ix ix_list (pv 1) (pe_un un_neg pe_int) (fun _ _ => rfl)) (nomark _))))) (pss_one (SupX.ps_raiseSup rfl T.x_BadText hr (takes_of rfl rfl rfl rfl) (pa_cons (pe_op op_sub (pe_fld (pv 0) rfl) pe_int) (pa_cons pe_int pa_nil)))) pss_nil)), ?_⟩
    obtain ⟨R, hp, k1, k2⟩ := h
    show tIfS _ _ _ _ [some (V.ref r), some (V.ref p), some (.int num)] H
    refine s_when (b := lastGe f num) (et_is (et_and (a := decide (((f.map V.int).length : Int) > 0)) (b := lastGe f num) ?_ fun hl => ?_) ?_) (fun hb H1 e1 => ?_) (fun hb H1 e1 => k2 hb _ e1)
    · exact et_B (ev_op (ev_cb (ea_cons (ev_var rfl) ea_nil) (rc_len_l hp)) ev_c rv_I0)
    · rw [decide_eq_true_iff, List.length_map] at hl
      exact et_B (ev_last (ev_var rfl) hp (ev_var rfl) (ev_un ev_c ru_neg) hl)
    · rw [List.length_map, last_and]
    · show SupX.tMkSup _ _ _ _ _ _
      refine s_raise (vs := [.int n, .int 1]) (ea_cons (ev_rat1 T (ev_var rfl) (R.ex e1)) (ea_cons ev_c ea_nil)) rfl ?_
      exact (k1 hb).mono e1
def sp_Reader_end (K : PySem.W.Frag) : Sp := fun vs H Q E => ∃ (r : Addr) (dx l : Addr) (rows : List (List Str)) (n : Nat), vs = [.ref r] ∧ RdAt K H r dx l rows n ∧ (n < rows.length → RaiseX (C_BadText K) (errF n 0) H E) ∧ (¬ n < rows.length → RetV .non H Q)
theorem ok_Reader_end {P : Program} {w : World} {K : PySem.W.Frag} {mg : Str → Option Value} {base : Heap} (T : Txt P K mg) : FnR P w K mg base (L2.CX P w) 3 (f_Reader_end K) (sp_Reader_end K) := by
  obtain ⟨fd, F⟩ := T.F_Reader_end
  refine Rr.fnR_ok (F.ok sc_Reader_end (fun vs H Q E h => ?_) (fun cdv A outer s H vs Q E hr h => ?_)) (F.bindsN fun _ _ _ _ _ _ us hl => match us, hl with | [_], _ => rfl)
  · obtain ⟨r, dx, l, rows, n, rfl, _⟩ := h
    rfl
  · obtain ⟨r, dx, l, rows, n, rfl, h⟩ := h
    refine ⟨_, (pss_one (ps_if (pt_cmpR op_lt (pe_fld (pv 0) rfl) (pe_callB call_len_seq rfl T.b_len (by decide +kernel) (pa_cons (pe_fld (pv 0) rfl) pa_nil)) (nomark _)) (pss_one (SupX.ps_raiseSup rfl T.x_BadText hr (takes_of rfl rfl rfl rfl) (pa_cons (pe_fld (pv 0) rfl) (pa_cons pe_int pa_nil)))) pss_nil)), ?_⟩
    obtain ⟨R, k1, k2⟩ := h
    show tIfS _ _ _ _ [some (V.ref r)] H
    have e0 : ∀ H', Ev (tVar 0) [some (V.ref r)] H' (.ref r) := fun H' => ev_var rfl
    refine s_when (b := decide ((n : Int) < (rows.length : Nat))) (et_B (ev_op (ev_rat T (e0 _) R) (ev_rlen (ev_rlines T (e0 _) R) R.rw) rv_I0)) (fun hb H1 e1 => ?_) (fun hb H1 e1 => ?_)
    · rw [decide_eq_true_iff] at hb
      show SupX.tMkSup _ _ _ _ _ _
      refine s_raise (vs := [.int n, .int 0]) (ea_cons (ev_rat T (e0 _) (R.ex e1)) (ea_cons ev_c ea_nil)) rfl ?_
      exact (k1 (by omega)).mono e1
    · rw [decide_eq_false_iff_not] at hb
      exact k2 (by omega) _ e1
open PySem PySem.Spec PyProof.Rows L2 Evl Hb TL
theorem cut_to (xs : List V) (k : Nat) : cutV xs none (some (k : Int)) = xs.take k := by
  unfold cutV
  have h1 : HT.sIx xs.length 0 none = 0 := rfl
  have h2 : HT.sIx xs.length xs.length (some (k : Int)) = min k xs.length := by
    unfold HT.sIx
    simp only []
    split <;> omega
  rw [h1, h2, List.drop_zero, Nat.sub_zero]
  by_cases h : k ≤ xs.length
  · rw [Nat.min_eq_left h]
  · rw [Nat.min_eq_right (by omega), List.take_of_length_le (Nat.le_refl _), List.take_of_length_le (by omega)]
theorem Exr.mut {r : Addr} {H H' : Hp} {D : Addr} {o : HO} (e : Exr r H H') (h : H D = none) : Exr r H (upd H' D o) := fun a u n ha => by
  rw [upd_ne (ne_of_none ha h)]
  exact e a u n ha
def headR (rows : List (List Str)) (n : Nat) (kw key : Str) (f : List Int) : Except (Nat × Nat) (List Str) := match takeR rows n kw with
  | .error e => .error e
  | .ok ws => match bad (ws.take 2) [key, "n"] 0 with
    | some j => .error (n, j)
    | none => if lastGe f (numOf (ws[1]?.getD "")) then .error (n, 1) else .ok ws
theorem fits_n (z : Str) : fits z "n" = isNum z := by unfold fits; rw [if_pos rfl]
theorem bad2 {ws : List Str} {key : Str} (h : bad (ws.take 2) [key, "n"] 0 = none) : ∃ a b r, ws = a :: b :: r ∧ isNum b = true := by
  match ws with
  | [] => cases h
  | [a] =>
    exfalso
    unfold bad at h
    simp only [List.take] at h
    split at h <;> cases h
  | a :: b :: r =>
    refine ⟨a, b, r, rfl, ?_⟩
    have h : (if fits a key then (if fits b "n" then none else some 1) else some 0) = none := h
    rw [fits_n] at h
    cases hb : isNum b with
    | true => rfl
    | false =>
      rw [hb] at h
      split at h <;> cases h
abbrev tInt (K : PySem.W.Frag) (i j : Nat) : TE := tCB (fun xs H Q => ∃ a n, xs = [V.str a] ∧ PySem.intText? a = some n ∧ a.length ≤ 640 ∧ Q (.int n) H) (tCons (tOp (rIxL K) (tVar i) (tC (.int j))) tNil)
theorem ev_tInt {K : PySem.W.Frag} {σ : L2.St} {H : Hp} {i j : Nat} {p : Addr} {ws : List Str} {w : Str} (h : σ[i]? = some (some (.ref p))) (hp : H p = some (.lst (ws.map V.str))) (hw : ws[j]? = some w) (hn : isNum w = true) : Ev (tInt K i j) σ H (.int (numOf w)) :=
  ev_cb (ea_cons (ev_op (ev_var h) ev_c (rv_ixL (sq_of hp) (atI_map hw))) ea_nil) (rc_num hn)
theorem call_LL {sp : Sp} {ta tb tc : TE} {σ : L2.St} {H : Hp} {x : V} {xs ys : List V} {E : L2.St → XK} {Q : VK} (ha : Ev ta σ H x) (hb : EvL tb σ H xs) (hc : EvL tc σ H ys) (k : ∀ H1 p q, Ex H H1 → H1 p = some (.lst xs) → H1 q = some (.lst ys) → sp [x, .ref p, .ref q] H1 Q (E σ)) : Rr.tR sp E (tCons ta (tCons tb (tCons tc tNil))) σ H Q :=
  ha H (Ex.refl H) _ fun H1 e1 => hb H1 e1 _ fun p H2 _ e2 h2 => hc H2 (e1.trans e2) _ fun q H3 _ e3 h3 => k H3 p q ((e1.trans e2).trans e3) (e3 p _ h2) h3
theorem call_VL {sp : Sp} {ta tb tc : TE} {σ : L2.St} {H : Hp} {x y : V} {ys : List V} {E : L2.St → XK} {Q : VK} (ha : Ev ta σ H x) (hb : Ev tb σ H y) (hc : EvL tc σ H ys) (k : ∀ H1 q, Ex H H1 → H1 q = some (.lst ys) → sp [x, y, .ref q] H1 Q (E σ)) : Rr.tR sp E (tCons ta (tCons tb (tCons tc tNil))) σ H Q :=
  ha H (Ex.refl H) _ fun H1 e1 => hb H1 e1 _ fun H2 e2 => hc H2 (e1.trans e2) _ fun q H3 _ e3 h3 => k H3 q ((e1.trans e2).trans e3) h3
theorem head4 {P : Program} {K : PySem.W.Frag} {mg : Str → Option Value} (T : Txt P K mg) {r dx l D1 : Addr} {v2 : V} {rows : List (List Str)} {n : Nat} {f : List Int} {kw key : Str} {x y : Option V} {W : WX} {H : Hp} {tz : TS} {D : Ends}
    (R : RdAt K H r dx l rows n) (G : Good rows) (h1 : H D1 = some (.lst (f.map V.int))) (hkey : key.length ≤ 100) (kerr : ∀ ln w, headR rows n kw key f = .error (ln, w) → ∀ σ', RaiseXr r (C_BadText K) (errF ln w) H (WE W σ'))
    (kok : ∀ ws, headR rows n kw key f = .ok ws → (∃ a b r, ws = a :: b :: r ∧ isNum b = true) → ws ∈ rows → ∀ p H2, Exr r H H2 → H2 r = some (.ins (C_Reader K) dx (rdF l (n + 1))) → H2 p = some (.lst (ws.map V.str)) → tz D [some (.ref r), some (.ref D1), some v2, some (.ref p), some (.int n)] H2) :
    tSeq (tAsg (Rr.tMR (C_Reader K) "take" (sp_Reader_take K) (WE W) (tVar 0) (tCons (tC (.str kw)) tNil)) (gName 3)) (tSeq (tAsg (tOp (rI0 fun i j => .int (i - j)) (tFld K (tVar 0) "at") (tC (.int 1))) (gName 4)) (tSeq (tDrop (Rr.tR (sp_check_line K) (WE W) (tCons (tVar 4) (tCons (tSl (rSlL K) (tVar 3) tNoPart (tPart (tC (.int 2)))) (tCons (tLst (tCons (tC (.str key)) (tCons (tC (.str "n")) tNil))) tNil)))))
      (tSeq (tDrop (Rr.tMR (C_Reader K) "ascends" (sp_Reader_ascends K) (WE W) (tVar 0) (tCons (tVar 1) (tCons (tInt K 3 1) tNil)))) tz))) D [some (.ref r), some (.ref D1), some v2, x, y] H := by
  refine q_asgG (call_mR (ev_var rfl) R.ob rfl (ea_cons ev_c ea_nil) fun H1 e1 => ⟨r, kw, dx, l, rows, n, rfl, R.ex e1, G, fun ln w q => ?_, fun ws q v H2 e2 h2 hv => ?_⟩)
  · exact (kerr ln w (by unfold headR; rw [q]) _).mono (Ex.toR e1)
  · obtain ⟨p, rfl, hp⟩ := hv
    obtain ⟨hm, hi, hb⟩ := takeR_ok q
    have eH : Exr r H H2 := (Ex.toR e1).trans e2
    have R2 : RdAt K H2 r dx l rows (n + 1) := R.exr eH h2
    have hD : H2 D1 = some (.lst (f.map V.int)) := eH D1 _ (ne_of h1 R.ob (by simp)) h1
    show tSeq _ _ D [some (.ref r), some (.ref D1), some v2, some (.ref p), y] H2
    refine q_asg (ev_rat1 T (ev_var rfl) R2) fun H3 e3 => ?_
    show tSeq _ _ D [some (.ref r), some (.ref D1), some v2, some (.ref p), some (.int n)] H3
    refine q_dropG (call_LL (ev_var rfl) (el_sl (ev_var rfl) eo_none (eo_some ev_c) (sq_of (e3 p _ hp))) (el_lst (ea_cons (x := .str key) ev_c (ea_cons (x := .str "n") ev_c ea_nil)) (by simp)) fun H6 p5 p6 e36 h5 h6 => ?_)
    have h5' : H6 p5 = some (.lst ((ws.take 2).map V.str)) := by
      rw [h5, show (2 : Int) = ((2 : Nat) : Int) from rfl, cut_to, List.map_take]
    have e26 : Ex H2 H6 := e3.trans e36
    have hu : ∀ j, bad (ws.take 2) [key, "n"] 0 = some j → headR rows n kw key f = .error (n, j) := fun j hj => by
      unfold headR; rw [q]
      show (match bad (ws.take 2) [key, "n"] 0 with | some j => Except.error (n, j) | none => if lastGe f (numOf (ws[1]?.getD "")) then Except.error (n, 1) else Except.ok ws) = _
      rw [hj]
    refine ⟨n, p5, p6, ws.take 2, [key, "n"], rfl, sq_of h5', sq_of h6, fun x hx => G.short hm x (List.mem_of_mem_take hx), fun x hx => ?_, fun hbn H7 e7 => ?_, fun j hj => ?_⟩
    · rcases List.mem_cons.mp hx with rfl | hx
      · exact sz100 (by omega)
      · have : x = "n" := by simpa using hx
        subst this
        exact sz100 (by decide)
    · obtain ⟨a, b, rr, rfl, hnb⟩ := bad2 hbn
      have e27 := e26.trans e7
      refine q_dropG (call_mR (ev_var rfl) (e27 r _ h2) rfl (ea_cons (ev_var rfl) (ea_cons (ev_tInt rfl (e27 p _ hp) (w := b) rfl hnb) ea_nil)) fun H8 e8 => ?_)
      have e28 := e27.trans e8
      have hu2 : headR rows n kw key f = if lastGe f (numOf b) then .error (n, 1) else .ok (a :: b :: rr) := by
        unfold headR; rw [q]
        show (match bad ((a :: b :: rr).take 2) [key, "n"] 0 with | some j => Except.error (n, j) | none => if lastGe f (numOf b) then Except.error (n, 1) else Except.ok (a :: b :: rr)) = _
        rw [hbn]
      refine ⟨r, D1, numOf b, dx, l, rows, n, f, rfl, R2.ex e28, sq_of (e28 D1 _ hD), fun hg => ?_, fun hg H9 e9 => ?_⟩
      · rw [if_pos hg] at hu2
        exact ((kerr n 1 hu2 _).mono (eH.trans (Ex.toR e28))).plain (e28 r _ h2)
      · rw [if_neg (by simp [hg])] at hu2
        have e29 := e28.trans e9
        exact kok _ hu2 ⟨a, b, rr, rfl, hnb⟩ hm p H9 (eH.trans (Ex.toR e29)) (e29 r _ h2) (e29 p _ hp)
    · exact ((kerr n j (hu j hj) _).mono (eH.trans (Ex.toR e26))).plain (e26 r _ h2)
open PySem PySem.Spec PyProof.Rows L2 Evl Hb TL
theorem bad_none : ∀ {ws ks : List Str} {i : Nat}, bad ws ks i = none → ws.length = ks.length ∧ ∀ (j : Nat) k, ks[j]? = some k → ∃ w, ws[j]? = some w ∧ fits w k = true
  | [], [], _, _ => ⟨rfl, fun j k h => by simp at h⟩
  | _ :: _, [], _, h => by cases h
  | [], _ :: _, _, h => by cases h
  | w :: ws, k :: ks, i, h => by
    have h' : (if fits w k then bad ws ks (i + 1) else some i) = none := h
    cases hf : fits w k with
    | false => rw [hf] at h'; cases h'
    | true =>
      rw [hf] at h'
      obtain ⟨h1, h2⟩ := bad_none (ws := ws) (ks := ks) (i := i + 1) h'
      refine ⟨by simp [h1], fun j k' hk => ?_⟩
      cases j with
      | zero => simp at hk; subst hk; exact ⟨w, rfl, hf⟩
      | succ j => exact h2 j k' (by simpa using hk)
def ResN (K : PySem.W.Frag) (r dx l : Addr) {α : Type} (x : Except (Nat × Nat) (Nat × α)) (rep : α → V → Hp → Prop) (H : Hp) (Q : VK) (E : XK) : Prop :=
  (∀ ln w, x = .error (ln, w) → RaiseXr r (C_BadText K) (errF ln w) H E) ∧ ∀ m a, x = .ok (m, a) → ∀ v H2, Exr r H H2 → H2 r = some (.ins (C_Reader K) dx (rdF l m)) → rep a v H2 → Q v H2
def formK : List Str := ["=form", "n", "w", "n", "w"]
def formsR (rows : List (List Str)) : Nat → Nat → List Int → Except (Nat × Nat) (Nat × List Int)
  | 0, n, bf => .ok (n, bf)
  | k + 1, n, bf => if bf.isEmpty || begins rows n "form" then (match headR rows n "form" "=form" bf with
      | .error e => .error e
      | .ok ws => match bad ws formK 0 with
        | some j => .error (n, j)
        | none => formsR rows k (n + 1) (bf ++ [numOf (ws[1]?.getD "")]))
    else .ok (n, bf)
def FormTs (as : List Addr) (H : Hp) : Prop := ∀ a ∈ as, ∃ (s z : Str) (i : Int), H a = some (.tup [.str s, .int i, .str z]) ∧ s.length ≤ 95000 ∧ z.length ≤ 95000
def repF (bf : List Int) (v : V) (H : Hp) : Prop := ∃ (t D1 D2 : Addr) (as : List Addr), v = .ref t ∧ H t = some (.tup [.ref D1, .ref D2]) ∧ H D1 = some (.lst (bf.map V.int)) ∧ H D2 = some (.lst (as.map V.ref)) ∧ as.length = bf.length ∧ FormTs as H ∧ bf.length ≤ 95001
def sp_read_forms (K : PySem.W.Frag) : Sp := fun vs H Q E => ∃ (r dx l : Addr) (rows : List (List Str)) (n0 : Nat), vs = [.ref r] ∧ RdAt K H r dx l rows n0 ∧ Good rows ∧ ResN K r dx l (formsR rows (rows.length + 1) n0 []) repF H Q E
theorem begins_lt {rows : List (List Str)} {n : Nat} {w : Str} (h : begins rows n w = true) : n < rows.length := by
  unfold begins at h
  cases q : rows[n]? with
  | none => rw [q] at h; cases h
  | some x => exact (List.getElem?_eq_some_iff.mp q).1
theorem ok_read_forms {P : Program} {w : World} {K : PySem.W.Frag} {mg : Str → Option Value} {base : Heap} (T : Txt P K mg) : FnR P w K mg base (L2.CX P w) 4 (f_read_forms K) (sp_read_forms K) := by
  obtain ⟨fd, F⟩ := T.F_read_forms
  have F_Reader_begins := ok_Reader_begins (w := w) (base := base) T
  have F_Reader_take := ok_Reader_take (w := w) (base := base) T
  have F_check_line := ok_check_line (w := w) (base := base) T
  have F_Reader_ascends := ok_Reader_ascends (w := w) (base := base) T
  refine Rr.fnR_ok (F.ok sc_read_forms (fun vs H Q E h => ?_) (fun cdv A outer s H vs Q E hr h => ?_)) (F.bindsN fun _ _ _ _ _ _ us hl => match us, hl with | [_], _ => rfl)
  · obtain ⟨r, dx, l, rows, n0, rfl, _⟩ := h
    rfl
  · obtain ⟨r, dx, l, rows, n0, rfl, h⟩ := h
    have hr_Reader_begins : Room 1 _ := hr.mono (by decide)
    have hr_Reader_take : Room 3 _ := hr.mono (by decide)
    have hr_check_line : Room 3 _ := hr.mono (by decide)
    have hr_Reader_ascends : Room 3 _ := hr.mono (by decide)
    refine ⟨_, (pss_cons (ps_set (i := 1) sc_read_forms.nd rfl (Or.inl rfl) (pe_lst pa_nil))
      (pss_cons (ps_set (i := 2) sc_read_forms.nd rfl (Or.inl rfl) (pe_lst pa_nil))
      (pss_cons (ps_while (passes_of rfl) (PW.pt (pw_or (pt_cmpR op_eq (pe_callB call_len_seq rfl T.b_len (by decide +kernel) (pa_cons (pv 2) pa_nil)) pe_int (nomark _)) (pw_or1 (pt_val (Rr.pe_mR (pv 0) T.cl_Reader T.m_Reader_begins F_Reader_begins hr_Reader_begins Rr.pass0 (pa_cons pe_str pa_nil)))))) (pss_cons (ps_set (i := 3) sc_read_forms.nd rfl (Or.inl rfl) (Rr.pe_mR (pv 0) T.cl_Reader T.m_Reader_take F_Reader_take hr_Reader_take (Rr.passW (takes_of rfl rfl rfl rfl)) (pa_cons pe_str pa_nil)))
      (pss_cons (ps_set (i := 4) sc_read_forms.nd rfl (Or.inl rfl) (pe_op op_sub (pe_fld (pv 0) rfl) pe_int))
      (pss_cons (ps_expr (Rr.pe_cR F_check_line hr_check_line T.k_check_line T.g_check_line (Rr.passW (takes_of rfl rfl rfl rfl)) (pa_cons (pv 4) (pa_cons (pe_slice sl_list (pv 3) po_none (po_some pe_int)) (pa_cons (pe_lst (pa_cons pe_str (pa_cons pe_str pa_nil))) pa_nil)))))
      (pss_cons (ps_expr (Rr.pe_mR (pv 0) T.cl_Reader T.m_Reader_ascends F_Reader_ascends hr_Reader_ascends (Rr.passW (takes_of rfl rfl rfl rfl)) (pa_cons (pv 1) (pa_cons (pe_callTy call_int_str rfl T.b_int (by decide +kernel) (pa_cons (pe_ix ix_list (pv 3) pe_int (fun _ _ => rfl)) pa_nil)) pa_nil))))
      (pss_cons (ps_expr (Rr.pe_cR F_check_line hr_check_line T.k_check_line T.g_check_line (Rr.passW (takes_of rfl rfl rfl rfl)) (pa_cons (pv 4) (pa_cons (pv 3) (pa_cons (pe_lst (pa_cons pe_str (pa_cons pe_str (pa_cons pe_str (pa_cons pe_str (pa_cons pe_str pa_nil)))))) pa_nil)))))
      (pss_cons (ps_expr (pe_bm PySem.F.plainAttrs_list PySem.F.slot_list_append PySem.F.type_list_append mt_append (pv 1) (pa_cons (pe_callTy call_int_str rfl T.b_int (by decide +kernel) (pa_cons (pe_ix ix_list (pv 3) pe_int (fun _ _ => rfl)) pa_nil)) pa_nil)))
      (pss_one (ps_expr (pe_bm PySem.F.plainAttrs_list PySem.F.slot_list_append PySem.F.type_list_append mt_append (pv 2) (pa_cons (pe_tup (pa_cons (pe_ix ix_list (pv 3) pe_int (fun _ _ => rfl)) (pa_cons (pe_callTy call_int_str rfl T.b_int (by decide +kernel) (pa_cons (pe_ix ix_list (pv 3) pe_int (fun _ _ => rfl)) pa_nil)) (pa_cons (pe_ix ix_list (pv 3) pe_int (fun _ _ => rfl)) pa_nil)))) pa_nil)))))))))))
      (pss_one (ps_ret (pe_tup (pa_cons (pv 1) (pa_cons (pv 2) pa_nil)))))))), ?_⟩
    obtain ⟨R, G, k⟩ := h
    show tSeq _ _ _ [some (V.ref r), none, none, none, none] H
    refine q_asgL (xs := []) (el_lst ea_nil (by simp)) fun D1 H1 hD1 e1 h1 => ?_
    show tSeq _ _ _ [some (V.ref r), some (.ref D1), none, none, none] H1
    refine q_asgL (xs := []) (el_lst ea_nil (by simp)) fun D2 H2 hD2 e2 h2 => ?_
    have hD2' : H D2 = none := fresh_back e1 hD2
    have hne : D1 ≠ D2 := ne_of_none h1 hD2
    refine q_while (fun m σ H' => ∃ (n : Nat) (bf : List Int) (as : List Addr) (w3 w4 : Option V), σ = [some (V.ref r), some (.ref D1), some (.ref D2), w3, w4] ∧ Exr r H H' ∧ H' r = some (.ins (C_Reader K) dx (rdF l n)) ∧ H' D1 = some (.lst (bf.map V.int)) ∧ H' D2 = some (.lst (as.map V.ref)) ∧
      FormTs as H' ∧ as.length = bf.length ∧ n = n0 + bf.length ∧ n + m = n0 + rows.length + 1 ∧ formsR rows (rows.length + 1) n0 [] = formsR rows m n bf) (rows.length + 1)
      ⟨n0, [], [], _, _, rfl, Ex.toR (e1.trans e2), e2 r _ (e1 r _ R.ob), e2 D1 _ h1, h2, fun a h => by simp at h, rfl, rfl, by omega, rfl⟩ (fun m σ' H' hw => ?_)
    obtain ⟨n, bf, as, w3, w4, rfl, eH, hr', hd1, hd2, hfs, hlen, hn, hm, hg⟩ := hw
    have R' : RdAt K H' r dx l rows n := R.exr eH hr'
    have hbeq : (decide (V.int ((as.map V.ref).length : Nat) = V.int 0) || begins rows n "form") = (bf.isEmpty || begins rows n "form") := by
      congr 1
      rw [List.length_map, hlen]
      cases bf with
      | nil => rfl
      | cons a b => exact decide_eq_false fun z => by injection z with z; rw [List.length_cons] at z; omega
    refine ⟨bf.isEmpty || begins rows n "form", et_is (et_or (a := decide (V.int ((as.map V.ref).length : Nat) = V.int 0)) (b := begins rows n "form") ?_ fun _ => ?_) hbeq, fun hb H3 e3 => ?_, fun hb H3 e3 => ?_⟩
    · exact et_B (ev_op (ev_cb (ea_cons (ev_var rfl) ea_nil) (rc_len_l (sq_of hd2))) ev_c (rv_eq rfl))
    · exact et_test (ev_mR (ev_var rfl) R'.ob rfl (ea_cons ev_c ea_nil) fun H1 e1 Q q E => ⟨r, "form", dx, l, rows, n, rfl, R'.ex e1, G, fun H2 e2 => q H2 e2⟩)
    · have hbr : begins rows n "form" = true ∨ bf = [] := by
        cases bf with
        | nil => exact .inr rfl
        | cons a b => exact .inl (by simpa using hb)
      obtain ⟨m', rfl⟩ : ∃ m', m = m' + 1 := by
        cases m with
        | succ m' => exact ⟨m', rfl⟩
        | zero =>
          rcases hbr with q | q
          · have := begins_lt q
            omega
          · subst q
            simp at hn
            omega
      have hg2 : formsR rows (m' + 1) n bf = (match headR rows n "form" "=form" bf with
          | .error e => .error e
          | .ok ws => match bad ws formK 0 with
            | some j => .error (n, j)
            | none => formsR rows m' (n + 1) (bf ++ [numOf (ws[1]?.getD "")])) := by
        show (if (bf.isEmpty || begins rows n "form") = true then _ else _) = _
        rw [if_pos hb]
      rw [hg2] at hg
      have E3 : Exr r H H3 := eH.trans (Ex.toR e3)
      refine ⟨fun σ2 H2 => ∃ (n : Nat) (bf : List Int) (as : List Addr) (w3 w4 : Option V), σ2 = [some (V.ref r), some (.ref D1), some (.ref D2), w3, w4] ∧ Exr r H H2 ∧ H2 r = some (.ins (C_Reader K) dx (rdF l n)) ∧ H2 D1 = some (.lst (bf.map V.int)) ∧ H2 D2 = some (.lst (as.map V.ref)) ∧
        FormTs as H2 ∧ as.length = bf.length ∧ n = n0 + bf.length ∧ n + m' = n0 + rows.length + 1 ∧ formsR rows (rows.length + 1) n0 [] = formsR rows m' n bf, fun σ2 H2 q => ⟨m', by omega, q⟩, ?_⟩
      refine head4 T (R'.ex e3) G (e3 D1 _ hd1) (by decide) (fun ln w q σ' => ?_) (fun ws q hnum hmem p H4 e4 h4 hp => ?_)
      · exact (k.1 ln w (by rw [hg, q])).mono E3
      · rw [q] at hg
        replace hg : formsR rows (rows.length + 1) n0 [] = (match bad ws formK 0 with
            | some j => .error (n, j)
            | none => formsR rows m' (n + 1) (bf ++ [numOf (ws[1]?.getD "")])) := hg
        have E4 : Exr r H H4 := E3.trans e4
        have d1 : H4 D1 = some (.lst (bf.map V.int)) := e4 D1 _ (ne_of (e3 D1 _ hd1) (e3 r _ hr') (by simp)) (e3 D1 _ hd1)
        have d2 : H4 D2 = some (.lst (as.map V.ref)) := e4 D2 _ (ne_of (e3 D2 _ hd2) (e3 r _ hr') (by simp)) (e3 D2 _ hd2)
        have fs4 : FormTs as H4 := fun a ha => by
          obtain ⟨s, z, i, q1, q2⟩ := hfs a ha
          exact ⟨s, z, i, e4 a _ (ne_of (e3 a _ q1) (e3 r _ hr') (by simp)) (e3 a _ q1), q2⟩
        show tSeq _ _ _ [some (V.ref r), some (.ref D1), some (.ref D2), some (.ref p), some (.int n)] H4
        refine q_dropG (call_VL (x := .int n) (y := .ref p) (ev_var rfl) (ev_var rfl) (el_lst (vs := formK.map V.str) (ea_cons (x := .str "=form") ev_c (ea_cons (x := .str "n") ev_c (ea_cons (x := .str "w") ev_c (ea_cons (x := .str "n") ev_c (ea_cons (x := .str "w") ev_c ea_nil))))) (by decide)) fun H5 p6 e5 h6 => ?_)
        refine ⟨n, p, p6, ws, formK, rfl, sq_of (e5 p _ hp), sq_of h6, G.short hmem, fun x hx => sz100 (by revert x; decide +kernel), fun hbn H6 e6 => ?_, fun j hj => ?_⟩
        · rw [hbn] at hg
          obtain ⟨a, b, rr, rfl, hnb⟩ := hnum
          have e46 := e5.trans e6
          obtain ⟨_, hall⟩ := bad_none hbn
          obtain ⟨c, hc, _⟩ := hall 2 "w" rfl
          obtain ⟨d, hd, hdn⟩ := hall 3 "n" rfl
          obtain ⟨e, he, _⟩ := hall 4 "w" rfl
          rw [fits_n] at hdn
          have hp6 := e46 p _ hp
          refine q_app (xs := bf.map V.int) (e46 D1 _ d1) (ev_var rfl) (ev_tInt rfl hp6 (w := b) rfl hnb) (by rw [List.length_map]; have := G.len; omega) fun H7 e7 => ?_
          have hpD : p ≠ D1 := ne_of hp6 (e46 D1 _ d1) (fun z => by cases bf <;> simp at z)
          have d27 : (upd H7 D1 (.lst (bf.map V.int ++ [.int (numOf b)]))) D2 = some (.lst (as.map V.ref)) := by
            rw [upd_ne (Ne.symm hne)]
            exact e7 D2 _ (e46 D2 _ d2)
          have hp7 : (upd H7 D1 (.lst (bf.map V.int ++ [.int (numOf b)]))) p = some (.lst ((a :: b :: rr).map V.str)) := by
            rw [upd_ne hpD]
            exact e7 p _ hp6
          refine s_appU (xs := as.map V.ref) (ys := [.str c, .int (numOf d), .str e]) d27 (ev_var rfl) (eu_tup (ea_cons (ev_op (ev_var rfl) ev_c (rv_ixL (i := ((2 : Nat) : Int)) (sq_of hp7) (atI_map hc))) (ea_cons (ev_tInt rfl hp7 hd hdn) (ea_cons (ev_op (ev_var rfl) ev_c (rv_ixL (i := ((4 : Nat) : Int)) (sq_of hp7) (atI_map he))) ea_nil))) (by simp)) (by rw [List.length_map]; have := G.len; omega) fun pt H8 hpt e8 h8 => ?_
          have hDt : D2 ≠ pt := ne_of_none d27 hpt
          have n1 : D1 ≠ pt := ne_of_none (upd_same (H := H7) (a := D1) (o := .lst (bf.map V.int ++ [.int (numOf b)]))) hpt
          refine ⟨n + 1, bf ++ [numOf b], as ++ [pt], _, _, rfl, ?_, ?_, ?_, ?_, ?_, ?_, ?_, ?_, ?_⟩
          · exact Exr.mut ((Exr.mut (E4.trans (Ex.toR (e46.trans e7))) (fresh_back (Ex.refl H) hD1)).trans (Ex.toR e8)) hD2'
          · rw [upd_ne (ne_of h4 (e5.trans e6 |>.trans (Ex.refl _) |> fun _ => d2) (by simp))]
            refine e8 r _ ?_
            rw [upd_ne (ne_of h4 d1 (by simp))]
            exact e7 r _ (e46 r _ h4)
          · rw [upd_ne hne]
            rw [e8 D1 _ upd_same, List.map_append]; rfl
          · rw [List.map_append]; exact upd_same
          · intro x hx
            rcases List.mem_append.mp hx with hx | hx
            · obtain ⟨s, z, i, q1, q2⟩ := fs4 x hx
              refine ⟨s, z, i, ?_, q2⟩
              rw [upd_ne (ne_of q1 d2 (by simp))]
              refine e8 x _ ?_
              rw [upd_ne (ne_of q1 d1 (by simp))]
              exact e7 x _ (e46 x _ q1)
            · have : x = pt := by simpa using hx
              subst this
              refine ⟨c, e, numOf d, by rw [upd_ne (Ne.symm hDt)]; exact h8, G.sh _ hmem c (List.mem_of_getElem? hc), G.sh _ hmem e (List.mem_of_getElem? he)⟩
          · rw [List.length_append, List.length_append, hlen]; rfl
          · rw [List.length_append, List.length_singleton]; omega
          · omega
          · exact hg
        · have := ((k.1 n j (by rw [hg, hj])).mono (E4.trans (Ex.toR e5))).plain (e5 r _ h4)
          exact this
    · have hg2 : formsR rows m n bf = .ok (n, bf) := by
        cases m with
        | zero => rfl
        | succ m' =>
          show (if (bf.isEmpty || begins rows n "form") = true then _ else _) = _
          rw [hb]; rfl
      rw [hg2] at hg
      refine s_retU (eu_tup (ea_cons (ev_var rfl) (ea_cons (ev_var rfl) ea_nil)) (by simp)) fun t H4 ht e4 h4 => ?_
      have e34 := e3.trans e4
      refine k.2 n bf hg _ H4 (eH.trans (Ex.toR e34)) (e34 r _ hr') ⟨t, D1, D2, as, rfl, h4, e34 D1 _ hd1, e34 D2 _ hd2, hlen, fun a ha => ?_, ?_⟩
      · obtain ⟨s, z, i, q1, q2⟩ := hfs a ha
        exact ⟨s, z, i, e34 a _ q1, q2⟩
      · have := G.len
        omega
open PySem PySem.Spec PyProof.Rows L2 Evl Hb TL
def ansK (ws : List Str) : List Str := if (ws.drop 2).take 1 = [("to" : Str)] then ["=answer", "n", "=to", "n"] else ["=answer", "n", "=wait"]
def ansR (rows : List (List Str)) : Nat → Nat → List Int → Except (Nat × Nat) (Nat × Unit)
  | 0, n, _ => .ok (n, ())
  | k + 1, n, pl => if begins rows n "answer" then (match headR rows n "answer" "=answer" pl with
      | .error e => .error e
      | .ok ws => match bad ws (ansK ws) 0 with
        | some j => .error (n, j)
        | none => ansR rows k (n + 1) (pl ++ [numOf (ws[1]?.getD "")]))
    else .ok (n, ())
def Answers (kvs : List (Key × V)) : Prop := ∀ q ∈ kvs, ∃ i : Int, q.1 = .inl i ∧ ((∃ j : Int, q.2 = .int j) ∨ q.2 = .str "wait")
def repA (_ : Unit) (v : V) (H : Hp) : Prop := ∃ (D : Addr) (kvs : List (Key × V)), v = .ref D ∧ H D = some (.dK kvs) ∧ Answers kvs ∧ kvs.length ≤ 95001
theorem mem_putK {kvs : List (Key × V)} {k : Key} {v : V} {q : Key × V} (h : q ∈ putK kvs k v) : q ∈ kvs ∨ q = (k, v) := by
  unfold putK at h
  split at h
  · obtain ⟨p, hp, e⟩ := List.mem_map.mp h
    by_cases hk : p.1 = k
    · rw [if_pos hk] at e
      exact .inr (by rw [← e, hk])
    · rw [if_neg hk] at e
      exact .inl (by rw [← e]; exact hp)
  · rcases List.mem_append.mp h with h | h
    · exact .inl h
    · exact .inr (by simpa using h)
theorem len_putK {kvs : List (Key × V)} {k : Key} {v : V} : (putK kvs k v).length ≤ kvs.length + 1 := by
  unfold putK
  split
  · rw [List.length_map]; omega
  · rw [List.length_append]; exact Nat.le_refl _
theorem cut_23 (xs : List V) : cutV xs (some 2) (some 3) = (xs.drop 2).take 1 := by
  unfold cutV
  rw [show (2 : Int) = ((2 : Nat) : Int) from rfl, show (3 : Int) = ((3 : Nat) : Int) from rfl, HT.sIx_nat, HT.sIx_nat]
  by_cases h : 3 ≤ xs.length
  · rw [Nat.min_eq_left (show 2 ≤ xs.length by omega), Nat.min_eq_left h]
  · by_cases h2 : 2 ≤ xs.length
    · rw [Nat.min_eq_left h2, Nat.min_eq_right (show xs.length ≤ 3 by omega)]
      have : xs.drop 2 = [] := List.drop_eq_nil_of_le (by omega)
      rw [this]; simp
    · rw [Nat.min_eq_right (show xs.length ≤ 3 by omega), Nat.min_eq_right (show xs.length ≤ 2 by omega), List.drop_length]
      have : xs.drop 2 = [] := List.drop_eq_nil_of_le (by omega)
      rw [this]; simp
theorem rv_eqTo {K : PySem.W.Frag} {H : Hp} {p q : Addr} {xs : List Str} (hx : xs.length ≤ 1) (hok : ∀ x ∈ xs, PyData.strOk x = true) (hp : H p = some (.lst (xs.map V.str))) (hq : H q = some (.lst ([("to" : Str)].map V.str))) : RV (rEqD K) (.ref p) (.ref q) H (.bl (decide (xs = [("to" : Str)]))) := fun H1 e Q k => by
  have hq1 : SqL K H1 q [V.str "to"] := sq_of (e q _ hq)
  match xs, hx with
  | [], _ =>
    have hp1 : SqL K H1 p [] := sq_of (e p _ hp)
    exact ⟨.list [], .list [.str "to"], .lst hp1 .nil, .lst hq1 (.cons (.str _) .nil), by decide, by decide +kernel, k H1 (Ex.refl H1)⟩
  | [w], _ =>
    have hp1 : SqL K H1 p [V.str w] := sq_of (e p _ hp)
    refine ⟨.list [.str w], .list [.str "to"], .lst hp1 (.cons (.str _) .nil), .lst hq1 (.cons (.str _) .nil), by first | rfl | simp [SeqAt.shaped, PyData.canLay0, PyData.canLayAll0, PyData.depth, PyData.depthAll, hok w (List.mem_cons_self ..)], by decide +kernel, ?_⟩
    have e1 : PyData.eqv (.list [.str w]) (.list [.str "to"]) = decide ([w] = [("to" : Str)]) := by
      simp only [PyData.eqv, PyData.eqvAll, Bool.and_true]
      by_cases h : w = "to"
      · subst h; simp
      · simp [h]
    rw [e1]
    exact k H1 (Ex.refl H1)
def AnsW (K : PySem.W.Frag) (r dx l : Addr) (rows : List (List Str)) (n0 : Nat) (D1 D2 : Addr) (H : Hp) (m : Nat) (σ : L2.St) (H' : Hp) : Prop := ∃ (n : Nat) (pl : List Int) (kvs : List (Key × V)) (w3 w4 : Option V), σ = [some (V.ref r), some (.ref D1), some (.ref D2), w3, w4] ∧ Exr r H H' ∧ H' r = some (.ins (C_Reader K) dx (rdF l n)) ∧ H' D1 = some (.lst (pl.map V.int)) ∧ H' D2 = some (.dK kvs) ∧
  Answers kvs ∧ kvs.length ≤ pl.length ∧ n = n0 + pl.length ∧ (n = n0 ∨ n ≤ rows.length) ∧ n + m = n0 + rows.length + 1 ∧ ansR rows (rows.length + 1) n0 [] = ansR rows m n pl
theorem ans_nil : Answers [] := fun q h => by cases h
def sp_read_answers (K : PySem.W.Frag) : Sp := fun vs H Q E => ∃ (r dx l : Addr) (rows : List (List Str)) (n0 : Nat), vs = [.ref r] ∧ RdAt K H r dx l rows n0 ∧ Good rows ∧ ResN K r dx l (ansR rows (rows.length + 1) n0 []) repA H Q E
theorem ok_read_answers {P : Program} {w : World} {K : PySem.W.Frag} {mg : Str → Option Value} {base : Heap} (T : Txt P K mg) : FnR P w K mg base (L2.CX P w) 4 (f_read_answers K) (sp_read_answers K) := by
  obtain ⟨fd, F⟩ := T.F_read_answers
  have F_Reader_begins := ok_Reader_begins (w := w) (base := base) T
  have F_Reader_take := ok_Reader_take (w := w) (base := base) T
  have F_check_line := ok_check_line (w := w) (base := base) T
  have F_Reader_ascends := ok_Reader_ascends (w := w) (base := base) T
  refine Rr.fnR_ok (F.ok sc_read_answers (fun vs H Q E h => ?_) (fun cdv A outer s H vs Q E hr h => ?_)) (F.bindsN fun _ _ _ _ _ _ us hl => match us, hl with | [_], _ => rfl)
  · obtain ⟨r, dx, l, rows, n0, rfl, _⟩ := h
    rfl
  · obtain ⟨r, dx, l, rows, n0, rfl, h⟩ := h
    have hu := hu_of hr
    have hr_Reader_begins : Room 1 _ := hr.mono (by decide)
    have hr_Reader_take : Room 3 _ := hr.mono (by decide)
    have hr_check_line : Room 3 _ := hr.mono (by decide)
    have hr_Reader_ascends : Room 3 _ := hr.mono (by decide)
    refine ⟨_, (pss_cons (ps_set (i := 1) sc_read_answers.nd rfl (Or.inl rfl) (pe_lst pa_nil))
      (pss_cons (ps_set (i := 2) sc_read_answers.nd rfl (Or.inl rfl) pe_dnewK)
      (pss_cons (ps_while (passes_of rfl) (pt_val (Rr.pe_mR (pv 0) T.cl_Reader T.m_Reader_begins F_Reader_begins hr_Reader_begins Rr.pass0 (pa_cons pe_str pa_nil))) (pss_cons (ps_set (i := 3) sc_read_answers.nd rfl (Or.inl rfl) (Rr.pe_mR (pv 0) T.cl_Reader T.m_Reader_take F_Reader_take hr_Reader_take (Rr.passW (takes_of rfl rfl rfl rfl)) (pa_cons pe_str pa_nil)))
      (pss_cons (ps_set (i := 4) sc_read_answers.nd rfl (Or.inl rfl) (pe_op op_sub (pe_fld (pv 0) rfl) pe_int))
      (pss_cons (ps_expr (Rr.pe_cR F_check_line hr_check_line T.k_check_line T.g_check_line (Rr.passW (takes_of rfl rfl rfl rfl)) (pa_cons (pv 4) (pa_cons (pe_slice sl_list (pv 3) po_none (po_some pe_int)) (pa_cons (pe_lst (pa_cons pe_str (pa_cons pe_str pa_nil))) pa_nil)))))
      (pss_cons (ps_expr (Rr.pe_mR (pv 0) T.cl_Reader T.m_Reader_ascends F_Reader_ascends hr_Reader_ascends (Rr.passW (takes_of rfl rfl rfl rfl)) (pa_cons (pv 1) (pa_cons (pe_callTy call_int_str rfl T.b_int (by decide +kernel) (pa_cons (pe_ix ix_list (pv 3) pe_int (fun _ _ => rfl)) pa_nil)) pa_nil))))
      (pss_cons (ps_if (pt_cmpR (op_eqD hr.units) (pe_slice sl_list (pv 3) (po_some pe_int) (po_some pe_int)) (pe_lst (pa_cons pe_str pa_nil)) (nomark _)) (pss_cons (ps_expr (Rr.pe_cR F_check_line hr_check_line T.k_check_line T.g_check_line (Rr.passW (takes_of rfl rfl rfl rfl)) (pa_cons (pv 4) (pa_cons (pv 3) (pa_cons (pe_lst (pa_cons pe_str (pa_cons pe_str (pa_cons pe_str (pa_cons pe_str pa_nil))))) pa_nil)))))
      (pss_one (ps_dput (by exact hu) (pv 2) (pe_callTy call_int_str rfl T.b_int (by decide +kernel) (pa_cons (pe_ix ix_list (pv 3) pe_int (fun _ _ => rfl)) pa_nil)) (pe_callTy call_int_str rfl T.b_int (by decide +kernel) (pa_cons (pe_ix ix_list (pv 3) pe_int (fun _ _ => rfl)) pa_nil)) rfl))) (pss_cons (ps_expr (Rr.pe_cR F_check_line hr_check_line T.k_check_line T.g_check_line (Rr.passW (takes_of rfl rfl rfl rfl)) (pa_cons (pv 4) (pa_cons (pv 3) (pa_cons (pe_lst (pa_cons pe_str (pa_cons pe_str (pa_cons pe_str pa_nil)))) pa_nil)))))
      (pss_one (ps_dput (by exact hu) (pv 2) (pe_callTy call_int_str rfl T.b_int (by decide +kernel) (pa_cons (pe_ix ix_list (pv 3) pe_int (fun _ _ => rfl)) pa_nil)) pe_str rfl))))
      (pss_one (ps_expr (pe_bm PySem.F.plainAttrs_list PySem.F.slot_list_append PySem.F.type_list_append mt_append (pv 1) (pa_cons (pe_callTy call_int_str rfl T.b_int (by decide +kernel) (pa_cons (pe_ix ix_list (pv 3) pe_int (fun _ _ => rfl)) pa_nil)) pa_nil))))))))))
      (pss_one (ps_ret (pv 2)))))), ?_⟩
    obtain ⟨R, G, k⟩ := h
    show tSeq _ _ _ [some (V.ref r), none, none, none, none] H
    refine q_asgL (xs := []) (el_lst ea_nil (by simp)) fun D1 H1 hD1 e1 h1 => ?_
    show tSeq _ _ _ [some (V.ref r), some (.ref D1), none, none, none] H1
    refine q_asgG (fun D2 hD2 => ?_)
    have hD2' : H D2 = none := fresh_back e1 hD2
    have hne : D1 ≠ D2 := ne_of_none h1 hD2
    have e2 : Ex H1 (upd H1 D2 (.dK [])) := Ex.new hD2
    refine q_while (AnsW K r dx l rows n0 D1 D2 H) (rows.length + 1)
      ⟨n0, [], [], _, _, rfl, Ex.toR (e1.trans e2), e2 r _ (e1 r _ R.ob), e2 D1 _ h1, upd_same, ans_nil, Nat.le_refl _, rfl, .inl rfl, by omega, rfl⟩ (fun m σ' H' hw => ?_)
    obtain ⟨n, pl, kvs, w3, w4, rfl, eH, hr', hd1, hd2, hans, hlen, hn, hnr, hm, hg⟩ := hw
    have R' : RdAt K H' r dx l rows n := R.exr eH hr'
    refine ⟨begins rows n "answer", ?_, fun hb H3 e3 => ?_, fun hb H3 e3 => ?_⟩
    · exact et_test (ev_mR (ev_var rfl) R'.ob rfl (ea_cons ev_c ea_nil) fun H1 e1 Q q E => ⟨r, "answer", dx, l, rows, n, rfl, R'.ex e1, G, fun H2 e2 => q H2 e2⟩)
    · have hlt := begins_lt hb
      obtain ⟨m', rfl⟩ : ∃ m', m = m' + 1 := by
        cases m with
        | succ m' => exact ⟨m', rfl⟩
        | zero => omega
      have hg2 : ansR rows (m' + 1) n pl = (match headR rows n "answer" "=answer" pl with
          | .error e => .error e
          | .ok ws => match bad ws (ansK ws) 0 with
            | some j => .error (n, j)
            | none => ansR rows m' (n + 1) (pl ++ [numOf (ws[1]?.getD "")])) := by
        show (if begins rows n "answer" = true then _ else _) = _
        rw [if_pos hb]
      rw [hg2] at hg
      have E3 : Exr r H H3 := eH.trans (Ex.toR e3)
      refine ⟨AnsW K r dx l rows n0 D1 D2 H m', fun σ2 H2 q => ⟨m', by omega, q⟩, ?_⟩
      refine head4 T (R'.ex e3) G (e3 D1 _ hd1) (by decide) (fun ln w q σ' => ?_) (fun ws q hnum hmem p H4 e4 h4 hp => ?_)
      · exact (k.1 ln w (by rw [hg, q])).mono E3
      · rw [q] at hg
        replace hg : ansR rows (rows.length + 1) n0 [] = (match bad ws (ansK ws) 0 with
            | some j => .error (n, j)
            | none => ansR rows m' (n + 1) (pl ++ [numOf (ws[1]?.getD "")])) := hg
        have E4 : Exr r H H4 := E3.trans e4
        have d1 : H4 D1 = some (.lst (pl.map V.int)) := e4 D1 _ (ne_of (e3 D1 _ hd1) (e3 r _ hr') (by simp)) (e3 D1 _ hd1)
        have d2 : H4 D2 = some (.dK kvs) := e4 D2 _ (ne_of (e3 D2 _ hd2) (e3 r _ hr') (by simp)) (e3 D2 _ hd2)
        obtain ⟨a, b, rr, rfl, hnb⟩ := hnum
        have hpl : pl.length < 100000 := by have := G.len; omega
        show tSeq _ _ _ [some (V.ref r), some (.ref D1), some (.ref D2), some (.ref p), some (.int n)] H4
        have hto : ∀ H5, Ex H4 H5 → EvT (tB (tOp (rEqD K) (tSl (rSlL K) (tVar 3) (tPart (tC (.int 2))) (tPart (tC (.int 3)))) (tLst (tCons (tC (.str "to")) tNil)))) [some (V.ref r), some (.ref D1), some (.ref D2), some (.ref p), some (.int n)] H5 (decide (((a :: b :: rr).drop 2).take 1 = [("to" : Str)])) := fun H5 e5 =>
          et_B (ev_opLL (el_sl (ev_var rfl) (eo_some ev_c) (eo_some ev_c) (sq_of (e5 p _ hp))) (el_lst (vs := [V.str "to"]) (ea_cons ev_c ea_nil) (by simp)) fun p7 q7 H7 h7 h8 e7 => rv_eqTo (by rw [List.length_take]; omega) (fun x hx => G.cp _ hmem x (List.mem_of_mem_drop (List.mem_of_mem_take hx))) (by rw [h7, cut_23, ← List.map_drop, ← List.map_take]) h8)
        have chk : ∀ (ks : List Str), ansK (a :: b :: rr) = ks → ks.length ≤ 10 → (∀ x ∈ ks, x.length ≤ 100) → ∀ H5, Ex H4 H5 → ∀ q6, H5 q6 = some (.lst (ks.map V.str)) → ∀ Q : VK, (bad (a :: b :: rr) ks 0 = none → RetV .non H5 Q) → sp_check_line K [.int n, .ref p, .ref q6] H5 Q E := fun ks hks hl hs H5 e5 q6 h6 Q hQ =>
          ⟨n, p, q6, a :: b :: rr, ks, rfl, sq_of (e5 p _ hp), sq_of h6, G.short hmem, fun x hx => sz100 (by have := hs x hx; omega), hQ, fun j hj => by
            have := ((k.1 n j (by rw [hg, hks, hj])).mono (E4.trans (Ex.toR e5))).plain (e5 r _ h4)
            exact this⟩
        have fin : ∀ (v : V) (cc bb : L2.St → Hp → Prop), ((∃ j : Int, v = .int j) ∨ v = .str "wait") → bad (a :: b :: rr) (ansK (a :: b :: rr)) 0 = none → ∀ H5, Ex H4 H5 → tDrop (tBM K "list" rAppend (tVar 1) (tCons (tInt K 3 1) tNil)) { nx := AnsW K r dx l rows n0 D1 D2 H m', ct := cc, bk := bb, rt := Q } [some (V.ref r), some (.ref D1), some (.ref D2), some (.ref p), some (.int n)] (upd H5 D2 (.dK (putK kvs (.inl (numOf b)) v))) := fun v cc bb hv hbn H5 e5 => by
          rw [hbn] at hg
          have u1 : ∀ {x o}, H4 x = some o → x ≠ D2 → (upd H5 D2 (.dK (putK kvs (.inl (numOf b)) v))) x = some o := fun h n => by
            rw [upd_ne n]; exact e5 _ _ h
          refine s_app (xs := pl.map V.int) (u1 d1 hne) (ev_var rfl) (ev_tInt rfl (u1 hp (ne_of hp d2 (by simp))) (w := b) rfl hnb) (by rw [List.length_map]; omega) fun H7 e7 => ?_
          refine ⟨n + 1, pl ++ [numOf b], putK kvs (.inl (numOf b)) v, _, _, rfl, ?_, ?_, ?_, ?_, fun x hx => ?_, ?_, ?_, ?_, ?_, ?_⟩
          · exact Exr.mut ((Exr.mut (E4.trans (Ex.toR e5)) hD2').trans (Ex.toR e7)) (fresh_back (Ex.refl H) hD1)
          · rw [upd_ne (ne_of h4 d1 (by simp))]
            exact e7 r _ (u1 h4 (ne_of h4 d2 (by simp)))
          · rw [List.map_append]; exact upd_same
          · rw [upd_ne (Ne.symm hne)]
            exact e7 D2 _ upd_same
          · rcases mem_putK hx with hx | rfl
            · exact hans x hx
            · exact ⟨_, rfl, hv⟩
          · have := len_putK (kvs := kvs) (k := .inl (numOf b)) (v := v)
            rw [List.length_append, List.length_singleton]; omega
          · rw [List.length_append, List.length_singleton]; omega
          · exact .inr (by omega)
          · omega
          · exact hg
        refine q_if (hto H4 (Ex.refl H4)) (fun hb2 H5 e5 => ?_) (fun hb2 H5 e5 => ?_)
        · have hks : ansK (a :: b :: rr) = (["=answer", "n", "=to", "n"] : List Str) := if_pos (of_decide_eq_true hb2)
          refine q_dropG (call_VL (x := .int n) (y := .ref p) (ev_var rfl) (ev_var rfl) (el_lst (vs := (["=answer", "n", "=to", "n"] : List Str).map V.str) (ea_cons (x := .str "=answer") ev_c (ea_cons (x := .str "n") ev_c (ea_cons (x := .str "=to") ev_c (ea_cons (x := .str "n") ev_c ea_nil)))) (by decide)) fun H6 p6 e6 h6 => ?_)
          refine chk _ hks (by decide) (by decide +kernel) H6 (e5.trans e6) p6 h6 _ fun hbn H7 e7 => ?_
          have e47 := (e5.trans e6).trans e7
          obtain ⟨_, hall⟩ := bad_none hbn
          obtain ⟨d, hd, hdn⟩ := hall 3 "n" rfl
          rw [fits_n] at hdn
          refine ev_tInt rfl (e47 p _ hp) hd hdn H7 (Ex.refl H7) _ fun H8 e8 => ?_
          refine ⟨.ref D2, rfl, ?_⟩
          have e48 := e47.trans e8
          refine ev_tInt rfl (e48 p _ hp) (w := b) rfl hnb H8 (Ex.refl H8) _ fun H9 e9 => ?_
          exact ⟨D2, _, rfl, DPut.k (k := .inl (numOf b)) (e9 D2 _ (e48 D2 _ d2)) (by have := sz_lt (n := kvs.length) (by omega); exact this), fin _ _ _ (.inl ⟨_, rfl⟩) (by rw [hks]; exact hbn) H9 (e48.trans e9)⟩
        · have hks : ansK (a :: b :: rr) = (["=answer", "n", "=wait"] : List Str) := if_neg (of_decide_eq_false hb2)
          refine q_dropG (call_VL (x := .int n) (y := .ref p) (ev_var rfl) (ev_var rfl) (el_lst (vs := (["=answer", "n", "=wait"] : List Str).map V.str) (ea_cons (x := .str "=answer") ev_c (ea_cons (x := .str "n") ev_c (ea_cons (x := .str "=wait") ev_c ea_nil))) (by decide)) fun H6 p6 e6 h6 => ?_)
          refine chk _ hks (by decide) (by decide +kernel) H6 (e5.trans e6) p6 h6 _ fun hbn H7 e7 => ?_
          have e47 := (e5.trans e6).trans e7
          refine ⟨.ref D2, rfl, ?_⟩
          refine ev_tInt rfl (e47 p _ hp) (w := b) rfl hnb H7 (Ex.refl H7) _ fun H9 e9 => ?_
          exact ⟨D2, _, rfl, DPut.k (k := .inl (numOf b)) (e9 D2 _ (e47 D2 _ d2)) (by have := sz_lt (n := kvs.length) (by omega); exact this), fin _ _ _ (.inr rfl) (by rw [hks]; exact hbn) H9 (e47.trans e9)⟩
    · have hg2 : ansR rows m n pl = .ok (n, ()) := by
        cases m with
        | zero => rfl
        | succ m' =>
          show (if begins rows n "answer" = true then _ else _) = _
          rw [hb]; rfl
      rw [hg2] at hg
      refine s_ret (ev_var rfl) fun H4 e4 => ?_
      have e34 := e3.trans e4
      exact k.2 n () hg _ H4 (eH.trans (Ex.toR e34)) (e34 r _ hr') ⟨D2, kvs, rfl, e34 D2 _ hd2, hans, by have := G.len; omega⟩
open PySem PySem.Spec PyProof.Rows L2 Evl Hb TL
def strR (rows : List (List Str)) : Nat → Nat → Except (Nat × Nat) (Nat × Unit)
  | 0, n => .ok (n, ())
  | k + 1, n => if begins rows n "stretch" then (match fixedR rows n "stretch" ["n", "n"] with
      | .error e => .error e
      | .ok _ => strR rows k (n + 1))
    else .ok (n, ())
def PairTs (as : List Addr) (H : Hp) : Prop := ∀ a ∈ as, ∃ i j : Int, H a = some (.tup [.int i, .int j])
def repS (_ : Unit) (v : V) (H : Hp) : Prop := ∃ (D : Addr) (as : List Addr), v = .ref D ∧ H D = some (.lst (as.map V.ref)) ∧ PairTs as H ∧ as.length ≤ 95001
def StrW (K : PySem.W.Frag) (r dx l : Addr) (rows : List (List Str)) (n0 : Nat) (D1 : Addr) (H : Hp) (m : Nat) (σ : L2.St) (H' : Hp) : Prop := ∃ (n : Nat) (as : List Addr) (w : Option V), σ = [some (V.ref r), some (.ref D1), w] ∧ Exr r H H' ∧ H' r = some (.ins (C_Reader K) dx (rdF l n)) ∧ H' D1 = some (.lst (as.map V.ref)) ∧
  PairTs as H' ∧ n = n0 + as.length ∧ (n = n0 ∨ n ≤ rows.length) ∧ n + m = n0 + rows.length + 1 ∧ strR rows (rows.length + 1) n0 = strR rows m n
theorem fixedR_ok {rows : List (List Str)} {n : Nat} {w : Str} {ks ws : List Str} (h : fixedR rows n w ks = .ok ws) : takeR rows n w = .ok ws ∧ bad ws (("=" ++ w) :: ks) 0 = none := by
  unfold fixedR at h
  cases q : takeR rows n w with
  | error e => rw [q] at h; cases h
  | ok x =>
    rw [q] at h
    replace h : (match bad x (("=" ++ w) :: ks) 0 with | some j => Except.error (n, j) | none => Except.ok x) = .ok ws := h
    cases q2 : bad x (("=" ++ w) :: ks) 0 with
    | some j => rw [q2] at h; cases h
    | none =>
      rw [q2] at h
      cases h
      exact ⟨rfl, q2⟩
theorem fixed_call {P : Program} {K : PySem.W.Frag} {mg : Str → Option Value} (T : Txt P K mg) {r dx l : Addr} {rows : List (List Str)} {n : Nat} {H : Hp} {Q : VK} {E : XK} {w : Str} {ks : List Str} (R : RdAt K H r dx l rows n) (G : Good rows) (hw : w.length ≤ 100) (hkl : ks.length ≤ 100) (hks : ∀ k ∈ ks, k.length ≤ 100)
    (k : Res K r dx l (n + 1) (fixedR rows n w ks) repL H Q E) : starSp 2 (sp_Reader_fixed K) (.ref r :: .str w :: ks.map V.str) H Q E :=
  ⟨[.ref r, .str w], ks.map V.str, rfl, rfl, by rw [List.length_map]; exact sz100 (by omega), fun p hp => ⟨r, w, p, dx, l, rows, n, ks, rfl, upd_same, R.ex (Ex.new hp), G, hw, hkl, hks, k.mono (Ex.toR (Ex.new hp))⟩⟩
def sp_read_stretches (K : PySem.W.Frag) : Sp := fun vs H Q E => ∃ (r dx l : Addr) (rows : List (List Str)) (n0 : Nat), vs = [.ref r] ∧ RdAt K H r dx l rows n0 ∧ Good rows ∧ ResN K r dx l (strR rows (rows.length + 1) n0) repS H Q E
theorem ok_read_stretches {P : Program} {w : World} {K : PySem.W.Frag} {mg : Str → Option Value} {base : Heap} (T : Txt P K mg) : FnR P w K mg base (L2.CX P w) 5 (f_read_stretches K) (sp_read_stretches K) := by
  obtain ⟨fd, F⟩ := T.F_read_stretches
  have F_Reader_begins := ok_Reader_begins (w := w) (base := base) T
  have F_Reader_fixed := ok_Reader_fixed (w := w) (base := base) T
  refine Rr.fnR_ok (F.ok sc_read_stretches (fun vs H Q E h => ?_) (fun cdv A outer s H vs Q E hr h => ?_)) (F.bindsN fun _ _ _ _ _ _ us hl => match us, hl with | [_], _ => rfl)
  · obtain ⟨r, dx, l, rows, n0, rfl, _⟩ := h
    rfl
  · obtain ⟨r, dx, l, rows, n0, rfl, h⟩ := h
    have hr_Reader_begins : Room 1 _ := hr.mono (by decide)
    have hr_Reader_fixed : Room 4 _ := hr.mono (by decide)
    refine ⟨_, (pss_cons (ps_set (i := 1) sc_read_stretches.nd rfl (Or.inl rfl) (pe_lst pa_nil))
      (pss_cons (ps_while (passes_of rfl) (pt_val (Rr.pe_mR (pv 0) T.cl_Reader T.m_Reader_begins F_Reader_begins hr_Reader_begins Rr.pass0 (pa_cons pe_str pa_nil))) (pss_cons (ps_set (i := 2) sc_read_stretches.nd rfl (Or.inl rfl) (Rr.pe_mR (pv 0) T.cl_Reader T.m_Reader_fixed F_Reader_fixed hr_Reader_fixed (Rr.passW (takes_of rfl rfl rfl rfl)) (pa_cons pe_str (pa_cons pe_str (pa_cons pe_str pa_nil)))))
      (pss_one (ps_expr (pe_bm PySem.F.plainAttrs_list PySem.F.slot_list_append PySem.F.type_list_append mt_append (pv 1) (pa_cons (pe_tup (pa_cons (pe_callTy call_int_str rfl T.b_int (by decide +kernel) (pa_cons (pe_ix ix_list (pv 2) pe_int (fun _ _ => rfl)) pa_nil)) (pa_cons (pe_callTy call_int_str rfl T.b_int (by decide +kernel) (pa_cons (pe_ix ix_list (pv 2) pe_int (fun _ _ => rfl)) pa_nil)) pa_nil))) pa_nil))))))
      (pss_one (ps_ret (pv 1))))), ?_⟩
    obtain ⟨R, G, k⟩ := h
    show tSeq _ _ _ [some (V.ref r), none, none] H
    refine q_asgL (xs := []) (el_lst ea_nil (by simp)) fun D1 H1 hD1 e1 h1 => ?_
    refine q_while (StrW K r dx l rows n0 D1 H) (rows.length + 1) ⟨n0, [], _, rfl, Ex.toR e1, e1 r _ R.ob, h1, fun a h => by simp at h, rfl, .inl rfl, by omega, rfl⟩ (fun m σ' H' hw => ?_)
    obtain ⟨n, as, w, rfl, eH, hr', hd1, hps, hn, hnr, hm, hg⟩ := hw
    have R' : RdAt K H' r dx l rows n := R.exr eH hr'
    refine ⟨begins rows n "stretch", ?_, fun hb H3 e3 => ?_, fun hb H3 e3 => ?_⟩
    · exact et_test (ev_mR (ev_var rfl) R'.ob rfl (ea_cons ev_c ea_nil) fun H1 e1 Q q E => ⟨r, "stretch", dx, l, rows, n, rfl, R'.ex e1, G, fun H2 e2 => q H2 e2⟩)
    · have hlt := begins_lt hb
      obtain ⟨m', rfl⟩ : ∃ m', m = m' + 1 := by
        cases m with
        | succ m' => exact ⟨m', rfl⟩
        | zero => omega
      have hg2 : strR rows (m' + 1) n = (match fixedR rows n "stretch" ["n", "n"] with
          | .error e => .error e
          | .ok _ => strR rows m' (n + 1)) := by
        show (if begins rows n "stretch" = true then _ else _) = _
        rw [if_pos hb]
      rw [hg2] at hg
      have E3 : Exr r H H3 := eH.trans (Ex.toR e3)
      refine ⟨StrW K r dx l rows n0 D1 H m', fun σ2 H2 q => ⟨m', by omega, q⟩, ?_⟩
      show tSeq _ _ _ [some (V.ref r), some (.ref D1), w] H3
      refine q_asgG (call_mR (ev_var rfl) (R'.ex e3).ob rfl (ea_cons (x := .str "stretch") ev_c (ea_cons (x := .str "n") ev_c (ea_cons (x := .str "n") ev_c ea_nil))) fun H4 e4 => ?_)
      refine fixed_call T (w := "stretch") (ks := ["n", "n"]) ((R'.ex e3).ex e4) G (by decide) (by decide) (by decide +kernel) ⟨fun ln w q => ?_, fun ws q v H5 e5 h5 hv => ?_⟩
      · exact (k.1 ln w (by rw [hg, q])).mono (E3.trans (Ex.toR e4))
      · obtain ⟨p, rfl, hp⟩ := hv
        rw [q] at hg
        replace hg : strR rows (rows.length + 1) n0 = strR rows m' (n + 1) := hg
        obtain ⟨hq, hbn⟩ := fixedR_ok q
        obtain ⟨_, hall⟩ := bad_none hbn
        obtain ⟨b, hb1, hbn1⟩ := hall 1 "n" rfl
        obtain ⟨c, hc1, hcn1⟩ := hall 2 "n" rfl
        rw [fits_n] at hbn1 hcn1
        have E5 : Exr r H H5 := (E3.trans (Ex.toR e4)).trans e5
        have hr4 := e4 r _ (e3 r _ hr')
        have old : ∀ {x xs}, H' x = some (.lst xs) → H5 x = some (.lst xs) := fun {x xs} h => e5 x _ (ne_of (e4 x _ (e3 x _ h)) hr4 (by simp)) (e4 x _ (e3 x _ h))
        have oldt : ∀ {x xs}, H' x = some (.tup xs) → H5 x = some (.tup xs) := fun {x xs} h => e5 x _ (ne_of (e4 x _ (e3 x _ h)) hr4 (by simp)) (e4 x _ (e3 x _ h))
        have d5 := old hd1
        refine s_appU (xs := as.map V.ref) (ys := [.int (numOf b), .int (numOf c)]) d5 (ev_var rfl) (eu_tup (ea_cons (ev_tInt rfl hp hb1 hbn1) (ea_cons (ev_tInt rfl hp hc1 hcn1) ea_nil)) (by simp)) (by rw [List.length_map]; have := G.len; omega) fun pt H8 hpt e8 h8 => ?_
        have hDt : D1 ≠ pt := ne_of_none d5 hpt
        refine ⟨n + 1, as ++ [pt], _, rfl, ?_, ?_, ?_, ?_, ?_, ?_, ?_, ?_⟩
        · exact Exr.mut (E5.trans (Ex.toR e8)) (fresh_back (Ex.refl H) hD1)
        · rw [upd_ne (ne_of h5 d5 (by simp))]
          exact e8 r _ h5
        · rw [List.map_append]; exact upd_same
        · intro x hx
          rcases List.mem_append.mp hx with hx | hx
          · obtain ⟨i, j, q1⟩ := hps x hx
            refine ⟨i, j, ?_⟩
            rw [upd_ne (ne_of (oldt q1) d5 (by simp))]
            exact e8 x _ (oldt q1)
          · have : x = pt := by simpa using hx
            subst this
            exact ⟨numOf b, numOf c, by rw [upd_ne (Ne.symm hDt)]; exact h8⟩
        · rw [List.length_append, List.length_singleton]; omega
        · exact .inr (by omega)
        · omega
        · exact hg
    · have hg2 : strR rows m n = .ok (n, ()) := by
        cases m with
        | zero => rfl
        | succ m' =>
          show (if begins rows n "stretch" = true then _ else _) = _
          rw [hb]; rfl
      rw [hg2] at hg
      refine s_ret (ev_var rfl) fun H4 e4 => ?_
      have e34 := e3.trans e4
      exact k.2 n () hg _ H4 (eH.trans (Ex.toR e34)) (e34 r _ hr') ⟨D1, as, rfl, e34 D1 _ hd1, fun a ha => by
        obtain ⟨i, j, q⟩ := hps a ha
        exact ⟨i, j, e34 a _ q⟩, by have := G.len; omega⟩
open PySem PySem.Spec PyProof.Rows L2 Evl Hb TL
def Others (K : PySem.W.Frag) : List Addr := [C_BadCodes K, C_BadLayout K, C_UnlikeLengths K, C_BadRewrite K, C_OldNotWhole K, C_NewNotWhole K]
def WeakE (K : PySem.W.Frag) (S : Addr → Prop) (H : Hp) (E : XK) : Prop := ∀ C ∈ Others K, ∀ d (fs : List (Str × V)) H', ExS S H H' → H' d = some (.xd fs) → E (.ref C) (some d) H'
theorem WeakE.mono {K : PySem.W.Frag} {S S' : Addr → Prop} {H H1 : Hp} {E : XK} (k : WeakE K S H E) (e : ExS S H H1) (h : ∀ a, S' a → S a ∨ H a = none) : WeakE K S' H1 E := fun C hC d fs H' e' hd => k C hC d fs H' (e.sub e' h) hd
theorem s_raiseW {K : PySem.W.Frag} {σ : L2.St} {H : Hp} {C : Addr} {fs : List Str} {vs : List V} {ta : TA} {Wh : XK} {S : Addr → Prop} (h : EvA ta σ H vs) (hl : vs.length = fs.length) (hC : C ∈ Others K) (k : WeakE K S H Wh) : SupX.tMkSup C fs ta σ H Wh :=
  s_raise h hl fun H' d e _ hd => k C hC d _ H' (Ex.toS e) hd
def isByte (i : Int) : Bool := decide (0 ≤ i) && decide (i ≤ 255)
def sp_is_byte : Sp := fun vs H Q _ => ∃ i : Int, vs = [.int i] ∧ RetV (.bl (isByte i)) H Q
theorem ok_is_byte {P : Program} {w : World} {K : PySem.W.Frag} {mg : Str → Option Value} {base : Heap} (T : Txt P K mg) : FnR P w K mg base (CX0) 1 (f_is_byte K) (sp_is_byte) := by
  obtain ⟨fd, F⟩ := T.F_is_byte
  refine Rr.fnR_ok (F.ok sc_is_byte (fun vs H Q E h => ?_) (fun cdv A outer s H vs Q E hr h => ?_)) (F.bindsN fun _ _ _ _ _ _ us hl => match us, hl with | [_], _ => rfl)
  · obtain ⟨i, rfl, _⟩ := h
    rfl
  · obtain ⟨i, rfl, h⟩ := h
    refine ⟨_, PSs.nox (pss_one (ps_ret (pe_and (pe_callB call_isi rfl T.b_isinstance (by decide +kernel) (pa_cons (pv 0) (pa_cons (pe_bltn (v := .ty "int") (u := .type "int") rfl T.b_int (by decide +kernel) rfl) pa_nil))) (pe_and (pe_not (pe_callB call_isi rfl T.b_isinstance (by decide +kernel) (pa_cons (pv 0) (pa_cons (pe_bltn (v := .ty "bool") (u := .type "bool") rfl T.b_bool (by decide +kernel) rfl) pa_nil)))) (pe_one (pe_chain op_le op_le pe_int (pv 0) pe_int)))))), ?_⟩
    refine s_ret (v := .bl (isByte i)) (ev_is (v := .bl (true && (!false && (decide ((0 : Int) ≤ i) && decide (i ≤ (255 : Int)))))) ?_ (by unfold isByte; simp)) h
    walk_at "ev"
theorem sv_is_byte {H : Hp} {i : Int} : SpV sp_is_byte [.int i] H (.bl (isByte i)) := fun H1 e Q q E => ⟨i, rfl, q⟩
def isName (z : Str) : Bool := (decide ((1 : Int) ≤ (z.length : Nat)) && decide (((z.length : Nat) : Int) ≤ 8)) && z.cps.toList.all fun c => decide (c ∈ ("abcdefghijklmnopqrstuvwxyz" : Str).cps.toList)
def sp_is_name : Sp := fun vs H Q _ => ∃ z : Str, vs = [.str z] ∧ z.length ≤ sizeLine ∧ RetV (.bl (isName z)) H Q
theorem ok_is_name {P : Program} {w : World} {K : PySem.W.Frag} {mg : Str → Option Value} {base : Heap} (T : Txt P K mg) : FnR P w K mg base (CX0) 1 (f_is_name K) (sp_is_name) := by
  obtain ⟨fd, F⟩ := T.F_is_name
  obtain ⟨_, c_LETTERS⟩ := T.c_LETTERS
  refine Rr.fnR_ok (F.ok sc_is_name (fun vs H Q E h => ?_) (fun cdv A outer s H vs Q E hr h => ?_)) (F.bindsN fun _ _ _ _ _ _ us hl => match us, hl with | [_], _ => rfl)
  · obtain ⟨z, rfl, _⟩ := h
    rfl
  · obtain ⟨z, rfl, h⟩ := h
    refine ⟨_, PSs.nox (pss_one (ps_ret (pe_and (pe_callB call_isi rfl T.b_isinstance (by decide +kernel) (pa_cons (pv 0) (pa_cons (pe_bltn (v := .ty "str") (u := .type "str") rfl T.b_str (by decide +kernel) rfl) pa_nil))) (pe_and (pe_chain op_le op_le pe_int (pe_callB call_len_str rfl T.b_len (by decide +kernel) (pa_cons (pv 0) pa_nil)) pe_int) (pe_one (pe_callB (cr_all rfl) rfl T.b_all (by decide +kernel) (pa_cons (pe_lc (own := [("sign", 1)]) (g := gName 1) (tt := tYes) rfl sc_is_name.nd (pi_str (pv 0)) (blkOk_by (N := N_is_name) (sc := defScope s_is_name) (by decide +kernel)) (fun _ _ _ _ _ => (pg_name (i := 1) sc_is_name.nd rfl (Or.inl rfl))) (fun _ _ _ _ _ => pts_nil) (fun _ _ _ _ _ => (pe_cmpR op_in_sign (pv 1) (pe_glob (v := .str "abcdefghijklmnopqrstuvwxyz") rfl c_LETTERS ⟨_, rfl⟩) (by rfl)))) pa_nil))))))), ?_⟩
    obtain ⟨hz, k⟩ := h
    refine s_ret (v := .bl (isName z)) (ev_is (v := .bl (true && ((decide ((1 : Int) ≤ (z.length : Nat)) && decide (((z.length : Nat) : Int) ≤ 8)) && (z.cps.toList.map fun c => decide (c ∈ ("abcdefghijklmnopqrstuvwxyz" : Str).cps.toList)).all id))) ?_ ?_) k
    · refine ev_andV ?_ fun _ => ev_andV ?_ fun _ => ev_is (ev_all (bs := z.cps.toList.map fun c => decide (c ∈ ("abcdefghijklmnopqrstuvwxyz" : Str).cps.toList)) (el_lcM (fun c => V.bl (decide (c ∈ ("abcdefghijklmnopqrstuvwxyz" : Str).cps.toList))) (ei_s (ev_var rfl)) (by rw [codes_len]; exact hz) (fun x => rfl) (fun c hc => ?_)) (by simp)) rfl
      · walk_at "ev"
      · walk_at "ev"
      · show Ev _ _ _ (V.bl (decide (c ∈ ("abcdefghijklmnopqrstuvwxyz" : Str).cps.toList)))
        walk_at "ev"
    · unfold isName
      rw [Bool.true_and, List.all_map]
      rfl
theorem sv_is_name {H : Hp} {z : Str} (h : z.length ≤ sizeLine) : SpV sp_is_name [.str z] H (.bl (isName z)) := fun H1 e Q q E => ⟨z, rfl, h, q⟩
def FormO (K : PySem.W.Frag) (o : HO) : Prop := ∃ (dx : Addr) (nm fl : Str) (i : Int), o = .ins (C_Form K) dx [("name", .str nm), ("length", .int i), ("flow", .str fl)] ∧ 1 ≤ i
def sp_Form (K : PySem.W.Frag) : Sp := fun vs H Q E => ∃ (x : Addr) (nm : Str) (i : Int) (fl : Str) (dx : Addr), vs = [.ref x, .str nm, .int i, .str fl] ∧ nm.length ≤ sizeLine ∧ H x = some (.ins (C_Form K) dx []) ∧ WeakE K (oneA x) H E ∧ ∀ H2 o, ExS (oneA x) H H2 → H2 x = some o → FormO K o → Q .non H2
theorem ok_Form___init__ {P : Program} {w : World} {K : PySem.W.Frag} {mg : Str → Option Value} {base : Heap} (T : Txt P K mg) : FnR P w K mg base (L2.CX P w) 3 (f_Form___init__ K) (sp_Form K) := by
  obtain ⟨fd, F⟩ := T.F_Form___init__
  have F_is_name := ok_is_name (w := w) (base := base) T
  refine Rr.fnR_ok (F.ok sc_Form___init__ (fun vs H Q E h => ?_) (fun cdv A outer s H vs Q E hr h => ?_)) (F.bindsN fun _ _ _ _ _ _ us hl => match us, hl with | [_, _, _, _], _ => rfl)
  · obtain ⟨x, nm, i, fl, dx, rfl, _⟩ := h
    rfl
  · obtain ⟨x, nm, i, fl, dx, rfl, h⟩ := h
    have hr_is_name : Room 1 _ := hr.mono (by decide)
    refine ⟨_, (pss_cons (ps_if (pt_not (pt_val (Rr.pe_cR F_is_name hr_is_name T.k_is_name T.g_is_name Rr.pass0 (pa_cons (pv 1) pa_nil)))) (pss_one (SupX.ps_raiseSup rfl T.x_BadCodes hr (takes_of rfl rfl rfl rfl) (pa_cons pe_str pa_nil))) pss_nil)
      (pss_cons (ps_set (i := 4) sc_Form___init__.nd rfl (Or.inl rfl) (pe_op op_add pe_int (pe_callTy call_int1 rfl T.b_int (by decide +kernel) (pa_cons (pe_cmpR op_in_seq (pv 3) (pe_tup (pa_cons pe_str (pa_cons pe_str pa_nil))) (by rfl)) pa_nil))))
      (pss_cons (ps_if (PW.pt (pw_or (pt_not (pt_val (pe_callB call_isi rfl T.b_isinstance (by decide +kernel) (pa_cons (pv 2) (pa_cons (pe_bltn (v := .ty "int") (u := .type "int") rfl T.b_int (by decide +kernel) rfl) pa_nil))))) (pw_or (pt_val (pe_callB call_isi rfl T.b_isinstance (by decide +kernel) (pa_cons (pv 2) (pa_cons (pe_bltn (v := .ty "bool") (u := .type "bool") rfl T.b_bool (by decide +kernel) rfl) pa_nil)))) (pw_or (pt_cmpR op_lt (pv 2) (pv 4) (nomark _)) (pw_or1 (pt_cmpR op_gt (pv 2) pe_int (nomark _))))))) (pss_one (SupX.ps_raiseSup rfl T.x_BadCodes hr (takes_of rfl rfl rfl rfl) (pa_cons pe_str pa_nil))) pss_nil)
      (pss_cons (ps_if (pt_cmpR op_notIn_seq (pv 3) (ClX.pe_cval (pe_glob (v := .ref (C_Form K)) rfl T.g_Form rfl)) (by rfl)) (pss_one (SupX.ps_raiseSup rfl T.x_BadCodes hr (takes_of rfl rfl rfl rfl) (pa_cons pe_str pa_nil))) pss_nil)
      (pss_cons (ps_fld (pv 0) (pv 1) rfl)
      (pss_cons (ps_fld (pv 0) (pv 2) rfl)
      (pss_one (ps_fld (pv 0) (pv 3) rfl)))))))), ?_⟩
    obtain ⟨hz, hx, kE, kQ⟩ := h
    show tSeq _ _ _ [some (V.ref x), some (.str nm), some (.int i), some (.str fl), none] H
    refine q_when (b := !isName nm) (et_not (et_test (ev_R (ea_cons (ev_var rfl) ea_nil) (sv_is_name hz)))) (fun hb H1 e1 => ?_) (fun hb H1 e1 => ?_)
    · show SupX.tMkSup _ _ _ _ _ _
      exact s_raiseW (vs := [.str "name"]) (ea_cons ev_c ea_nil) rfl (by simp [Others]) (kE.mono (Ex.toS e1) fun a h => .inl h)
    · refine q_asg (v := .int (1 + (if inV (.str fl) [.str "jump", .str "test"] then 1 else 0))) ?_ fun H2 e2 => ?_
      · walk_at "ev"
      · have hl1 : (1 : Int) ≤ 1 + (if inV (.str fl) [.str "jump", .str "test"] then 1 else 0) := by split <;> omega
        generalize (1 : Int) + (if inV (.str fl) [.str "jump", .str "test"] then 1 else 0) = least at hl1
        show tSeq _ _ _ [some (V.ref x), some (.str nm), some (.int i), some (.str fl), some (.int least)] H2
        refine q_when (b := !true || (false || (decide (i < least) || decide (i > 4)))) ?_ (fun hb2 H3 e3 => ?_) (fun hb2 H3 e3 => ?_)
        · walk_at "ev"
        · show SupX.tMkSup _ _ _ _ _ _
          exact s_raiseW (vs := [.str "length"]) (ea_cons ev_c ea_nil) rfl (by simp [Others]) (kE.mono (Ex.toS ((e1.trans e2).trans e3)) fun a h => .inl h)
        · have hi : 1 ≤ i := by
            simp only [Bool.not_true, Bool.false_or, Bool.or_eq_false_iff, decide_eq_false_iff_not] at hb2
            omega
          obtain ⟨mc, tp, r1, r2, r3⟩ := T.cv_Form_FLOWS
          refine q_when (et_B (ev_op (ev_var rfl) (ev_cval ev_c r1 r2) (rv_niT (r3 _) rfl rfl))) (fun hb3 H4 e4 => ?_) (fun hb3 H4 e4 => ?_)
          · show SupX.tMkSup _ _ _ _ _ _
            exact s_raiseW (vs := [.str "flow"]) (ea_cons ev_c ea_nil) rfl (by simp [Others]) (kE.mono (Ex.toS (((e1.trans e2).trans e3).trans e4)) fun a h => .inl h)
          · have e14 := ((e1.trans e2).trans e3).trans e4
            refine q_seq (s_fld (ev_var rfl) (ev_var rfl) (e14 x _ hx) T.cl_Form T.n_Form_name (by simp) fun H5 e5 => ?_)
            refine q_seq (s_fld (fs := [("name", .str nm)]) (ev_var rfl) (ev_var rfl) upd_same T.cl_Form T.n_Form_length (by simp) fun H6 e6 => ?_)
            refine s_fld (fs := [("name", .str nm), ("length", .int i)]) (ev_var rfl) (ev_var rfl) upd_same T.cl_Form T.n_Form_flow (by simp) fun H7 e7 => ?_
            exact kQ _ _ (ExS.mut (S := oneA x) ((ExS.mut (S := oneA x) ((ExS.mut (S := oneA x) ((Ex.toS e14).ex e5) (.inl rfl)).ex e6) (.inl rfl)).ex e7) (.inl rfl)) upd_same ⟨dx, nm, fl, i, rfl, hi⟩
open PySem PySem.Spec PyProof.Rows L2 Evl Hb TL
def FormKV (K : PySem.W.Frag) (H : Hp) (kvs : List (Key × V)) : Prop := ∀ q ∈ kvs, ∃ (i : Int) (a : Addr) (o : HO), q.1 = .inl i ∧ q.2 = .ref a ∧ H a = some o ∧ FormO K o
theorem FormKV.ex {K : PySem.W.Frag} {H H' : Hp} {kvs : List (Key × V)} (h : FormKV K H kvs) (e : Ex H H') : FormKV K H' kvs := fun q hq => by
  obtain ⟨i, a, o, h1, h2, h3, h4⟩ := h q hq
  exact ⟨i, a, o, h1, h2, e a _ h3, h4⟩
theorem FormKV.at {K : PySem.W.Frag} {H : Hp} {kvs : List (Key × V)} (h : FormKV K H kvs) {q : Key × V} (hq : q ∈ kvs) : ∃ (a : Addr) (o : HO), valV kvs q.1 = some (.ref a) ∧ H a = some o ∧ FormO K o := by
  obtain ⟨v, hv⟩ := valV_of_mem hq
  obtain ⟨i, a, o, _, h2, h3, h4⟩ := h _ (valV_mem hv)
  exact ⟨a, o, by rw [hv, ← h2], h3, h4⟩
def sp_check_forms (K : PySem.W.Frag) : Sp := fun vs H Q E => ∃ (stop : Int) (d : Addr) (kvs : List (Key × V)), vs = [.int stop, .ref d] ∧ H d = some (.dK kvs) ∧ FormKV K H kvs ∧ kvs.length ≤ 95001 ∧ WeakE K (oneA d) H E ∧ ∀ H2, Ex H H2 → Q .non H2
theorem ok_check_forms {P : Program} {w : World} {K : PySem.W.Frag} {mg : Str → Option Value} {base : Heap} (T : Txt P K mg) : FnR P w K mg base (L2.CX P w) 3 (f_check_forms K) (sp_check_forms K) := by
  obtain ⟨fd, F⟩ := T.F_check_forms
  have F_is_byte := ok_is_byte (w := w) (base := base) T
  refine Rr.fnR_ok (F.ok sc_check_forms (fun vs H Q E h => ?_) (fun cdv A outer s H vs Q E hr h => ?_)) (F.bindsN fun _ _ _ _ _ _ us hl => match us, hl with | [_, _], _ => rfl)
  · obtain ⟨stop, d, kvs, rfl, _⟩ := h
    rfl
  · obtain ⟨stop, d, kvs, rfl, h⟩ := h
    have hu := hu_of hr
    have hr_is_byte : Room 1 _ := hr.mono (by decide)
    refine ⟨_, (pss_cons (ps_if (PW.pt (pw_or (pt_cmpR op_lt (pe_callB call_lenD rfl T.b_len (by decide +kernel) (pa_cons (pv 1) pa_nil)) pe_int (nomark _)) (pw_or1 (pt_cmpR op_gt (pe_callB call_lenD rfl T.b_len (by decide +kernel) (pa_cons (pv 1) pa_nil)) (ClX.pe_cval (pe_glob (v := .ref (C_CodeSet K)) rfl T.g_CodeSet rfl)) (nomark _))))) (pss_one (SupX.ps_raiseSup rfl T.x_BadCodes hr (takes_of rfl rfl rfl rfl) (pa_cons pe_str pa_nil))) pss_nil)
      (pss_cons (ps_lock (ps_setLc (i := 3) (own := [("byte", 2)]) (g := gName 2) (tt := tYes) rfl sc_check_forms.nd rfl rfl (sw_true rfl rfl rfl (by decide +kernel)) (pi_keys (pv 1)) (blkOk_by (N := N_check_forms) (sc := defScope s_check_forms) (by decide +kernel)) (fun _ _ _ _ _ => (pg_name (i := 2) sc_check_forms.nd rfl (Or.inl rfl))) (fun _ _ _ _ _ => pts_nil) (fun _ _ _ _ _ => (Rw.pe_fldK (K := K) rfl (pe_dget (by exact hu) (pv 1) (pv 2) (fun _ _ => rfl)) rfl))))
      (pss_cons (ps_if (pt_cmpR op_lt (Ru.pe_lenSetS rfl rfl T.b_len rfl T.b_set (pv 3)) (pe_callB call_len_seq rfl T.b_len (by decide +kernel) (pa_cons (pv 3) pa_nil)) (nomark _)) (pss_one (SupX.ps_raiseSup rfl T.x_BadCodes hr (takes_of rfl rfl rfl rfl) (pa_cons pe_str pa_nil))) pss_nil)
      (pss_one (ps_lock (ps_for (passes_of rfl) rfl (pi_keys (pv 1)) (pg_name (i := 2) sc_check_forms.nd rfl (Or.inl rfl)) (pss_one (ps_if (PW.pt (pw_or (pt_not (pt_val (Rr.pe_cR F_is_byte hr_is_byte T.k_is_byte T.g_is_byte Rr.pass0 (pa_cons (pv 2) pa_nil)))) (pw_or1 (pt_cmpR op_eq (pv 2) (pv 0) (nomark _))))) (pss_one (SupX.ps_raiseSup rfl T.x_BadCodes hr (takes_of rfl rfl rfl rfl) (pa_cons pe_str pa_nil))) pss_nil)))))))), ?_⟩
    obtain ⟨hd, hf, hl, kE, kQ⟩ := h
    obtain ⟨mc, u0, r1, r2⟩ := T.cv_CodeSet_MOST_FORMS
    show tSeq _ _ _ [some (V.int stop), some (.ref d), none, none] H
    refine q_when (b := decide ((kvs.length : Int) < 1) || decide ((kvs.length : Int) > 16)) (et_or ?_ fun _ => et_B (ev_op (ev_cb (ea_cons (ev_var rfl) ea_nil) (rc_lenD hd)) (ev_cval ev_c r1 r2) rv_I0)) (fun hb H1 e1 => ?_) (fun hb H1 e1 => ?_)
    · walk_at "ev"
    · show SupX.tMkSup _ _ _ _ _ _
      exact s_raiseW (vs := [.str "forms"]) (ea_cons ev_c ea_nil) rfl (by simp [Others]) (kE.mono (Ex.toS e1) fun a h => .inl h)
    · have hl16 : kvs.length ≤ 16 := by
        simp only [Bool.or_eq_false_iff, decide_eq_false_iff_not] at hb
        omega
      have hd1 := e1 d _ hd
      -- the names
      obtain ⟨zs, hz1, hz2⟩ := choose_list (P := fun (q : Key × V) (nm : Str) => ∃ (a dx : Addr) (fl : Str) (i : Int), valV kvs q.1 = some (.ref a) ∧ H a = some (.ins (C_Form K) dx [("name", .str nm), ("length", .int i), ("flow", .str fl)])) (xs := kvs) fun q hq => by
        obtain ⟨a, o, h1, h2, dx, nm, fl, i, rfl, _⟩ := hf.at hq
        exact ⟨nm, a, dx, fl, i, h1, h2⟩
      have hzl : zs.length = kvs.length := by rw [← hz1, List.length_map]
      refine q_seq ⟨d, .dK kvs, hd1, trivial, fun od => s_asgG ?_⟩
      have hfz : (upd H1 d (.frz od (.dK kvs))) d = some (.frz od (.dK kvs)) := upd_same
      have oth : ∀ {a o}, H a = some o → a ≠ d → (upd H1 d (.frz od (.dK kvs))) a = some o := fun h n => by rw [upd_ne n]; exact e1 _ _ h
      refine el_lcM (α := (Key × V) × Str) (ys := zs) (ex := fun z => kV z.1.1) (fun z => V.str z.2) (by
        have := ei_k (te := tVar 1) (σ := [some (V.int stop), some (.ref d), none, none]) (ev_var rfl) hfz
        have e : (zs.map fun z => kV z.1.1) = kvs.map fun q => kV q.1 := by rw [← hz1, List.map_map]; rfl
        rw [e]
        exact this) (sz_of (by omega)) (fun x => rfl) (fun z hz => ?_) (upd H1 d (.frz od (.dK kvs))) (Ex.refl _) _ fun p H2 hp e2 h2 => ?_
      · obtain ⟨a, dx, fl, i, q1, q2⟩ := hz2 z hz
        exact ev_fld (ev_dget (ev_var rfl) (ev_var rfl) (.inr ⟨od, hfz⟩) q1) (oth q2 (ne_of q2 hd (by simp))) T.cl_Form T.n_Form_name rfl
      · refine ⟨e2 d _ hfz, ?_⟩
        have hpd : p ≠ d := fun z => by rw [z, hfz] at hp; cases hp
        have e1r : Ex H (upd H2 d (.dK kvs)) := fun a o ha => by
          by_cases h : a = d
          · subst h; rw [hd] at ha; cases ha; exact upd_same
          · rw [upd_ne h]; exact e2 a _ (oth ha h)
        have hnp : (upd H2 d (.dK kvs)) p = some (.lst ((zs.map (·.2)).map V.str)) := by
          rw [upd_ne hpd, h2, List.map_map]; rfl
        generalize (upd H2 d (.dK kvs)) = H3 at e1r hnp
        dsimp only
        show tSeq (tIfS (tTest _) _ _) _ _ [some (V.int stop), some (.ref d), none, some (.ref p)] H3
        refine q_whenA ?_
        refine op_any ?_
        refine lenSet_any (ev_var rfl) (sq_of hnp) (by rw [List.length_map]; omega) fun c H4 e4 => ?_
        refine ev_go (ev_cb (ea_cons (ev_var (i := 3) rfl) ea_nil) (rc_len_l (K := K) (sq_of (e4 p _ hnp)))) fun H5 e5 => ?_
        refine ⟨(c : Int), (((zs.map (·.2)).map V.str).length : Nat), rfl, rfl, _, rfl, ?_⟩
        have e15 := (e1r.trans e4).trans e5
        by_cases hlt : (c : Int) < (((zs.map (·.2)).map V.str).length : Nat)
        · rw [if_pos (decide_eq_true hlt)]
          show SupX.tMkSup _ _ _ _ _ _
          exact s_raiseW (vs := [.str "forms"]) (ea_cons ev_c ea_nil) rfl (by simp [Others]) (kE.mono (Ex.toS e15) fun a h => .inl h)
        · rw [if_neg (by simp only [decide_eq_true_eq]; exact hlt)]
          show tLock _ _ [some (V.int stop), some (.ref d), none, some (.ref p)] H5
          have hd5 := e15 d _ hd
          refine ⟨d, .dK kvs, hd5, trivial, fun od2 => ?_⟩
          have hfz5 : (upd H5 d (.frz od2 (.dK kvs))) d = some (.frz od2 (.dK kvs)) := upd_same
          have toS : ∀ H6, Ex (upd H5 d (.frz od2 (.dK kvs))) H6 → ExS (oneA d) H H6 := fun H6 e6 a o n ha => e6 a o (by rw [upd_ne n]; exact e15 a o ha)
          refine s_forI (ei_k (ev_var rfl) hfz5) (fun H6 i σ' H7 => Ex H6 H7 ∧ ∃ w, σ' = [some (V.int stop), some (.ref d), w, some (.ref p)]) (fun _ _ _ _ h => h.1) (fun H6 e6 => ⟨Ex.refl _, _, rfl⟩) (fun H6 i x σ' H7 e6 hx hP => ?_) (fun H6 σ' H7 e6 hP => ?_)
          · obtain ⟨e7, w, rfl⟩ := hP
            rw [List.getElem?_map] at hx
            obtain ⟨q, hq, rfl⟩ := Option.map_eq_some_iff.mp hx
            obtain ⟨i, a, o, hk, _⟩ := hf q (List.mem_of_getElem? hq)
            have hkv : kV q.1 = .int i := by rw [hk]; rfl
            dsimp only [gName]
            show tIfS _ _ _ _ [some (V.int stop), some (.ref d), some (kV q.1), some (.ref p)] H7
            rw [hkv]
            refine s_when (b := !isByte i || decide (V.int i = V.int stop)) (et_or (et_not (et_test (ev_R (ea_cons (ev_var rfl) ea_nil) sv_is_byte))) fun _ => et_B (ev_op (ev_var rfl) (ev_var rfl) (rv_eq rfl))) (fun hb2 H8 e8 => ?_) (fun hb2 H8 e8 => ⟨e7.trans e8, _, rfl⟩)
            show SupX.tMkSup _ _ _ _ _ _
            exact s_raiseW (vs := [.str "forms"]) (ea_cons ev_c ea_nil) rfl (by simp [Others]) (kE.mono (toS _ ((e6.trans e7).trans e8)) fun a h => .inl h)
          · obtain ⟨e7, w, rfl⟩ := hP
            refine ⟨e7 d _ (e6 d _ hfz5), kQ _ fun a o ha => ?_⟩
            by_cases h : a = d
            · subst h; rw [hd] at ha; cases ha; exact upd_same
            · rw [upd_ne h]; exact toS _ (e6.trans e7) a o h ha
open PySem PySem.Spec PyProof.Rows L2 Evl Hb TL
structure CodesAt (K : PySem.W.Frag) (H : Hp) (c : Addr) (dx o t : Addr) (stop : Int) (ks : List Int) (tkvs : List (Key × V)) : Prop where
  ob : H c = some (.ins (C_CodeSet K) dx [("stop", .int stop), ("order", .ref o), ("table", .ref t)])
  or : H o = some (.lst (ks.map V.int))
  tb : H t = some (.dK tkvs)
  fm : ∀ k ∈ ks, ∃ (a : Addr) (fo : HO), valV tkvs (.inl k) = some (.ref a) ∧ H a = some fo ∧ FormO K fo
theorem CodesAt.ex {K : PySem.W.Frag} {H H' : Hp} {c dx o t : Addr} {stop : Int} {ks : List Int} {tkvs : List (Key × V)} (h : CodesAt K H c dx o t stop ks tkvs) (e : Ex H H') : CodesAt K H' c dx o t stop ks tkvs :=
  ⟨e c _ h.ob, e o _ h.or, e t _ h.tb, fun k hk => by
    obtain ⟨a, fo, h1, h2, h3⟩ := h.fm k hk
    exact ⟨a, fo, h1, e a _ h2, h3⟩⟩
def sp_CodeSet (K : PySem.W.Frag) : Sp := fun vs H Q E => ∃ (x : Addr) (stop : Int) (d : Addr) (dx : Addr) (kvs : List (Key × V)), vs = [.ref x, .int stop, .ref d] ∧ H x = some (.ins (C_CodeSet K) dx []) ∧ H d = some (.dK kvs) ∧ FormKV K H kvs ∧ kvs.length ≤ 95001 ∧ WeakE K (fun a => a = x ∨ a = d) H E ∧
  ∀ H2 o t ks tkvs, ExS (oneA x) H H2 → CodesAt K H2 x dx o t stop ks tkvs → Q .non H2
theorem ok_CodeSet___init__ {P : Program} {w : World} {K : PySem.W.Frag} {mg : Str → Option Value} {base : Heap} (T : Txt P K mg) : FnR P w K mg base (L2.CX P w) 4 (f_CodeSet___init__ K) (sp_CodeSet K) := by
  obtain ⟨fd, F⟩ := T.F_CodeSet___init__
  have F_is_byte := ok_is_byte (w := w) (base := base) T
  have F_check_forms := ok_check_forms (w := w) (base := base) T
  refine Rr.fnR_ok (F.ok sc_CodeSet___init__ (fun vs H Q E h => ?_) (fun cdv A outer s H vs Q E hr h => ?_)) (F.bindsN fun _ _ _ _ _ _ us hl => match us, hl with | [_, _, _], _ => rfl)
  · obtain ⟨x, stop, d, dx, kvs, rfl, _⟩ := h
    rfl
  · obtain ⟨x, stop, d, dx, kvs, rfl, h⟩ := h
    have hu := hu_of hr
    have hr_is_byte : Room 1 _ := hr.mono (by decide)
    have hr_check_forms : Room 3 _ := hr.mono (by decide)
    refine ⟨_, (pss_cons (ps_if (pt_not (pt_val (Rr.pe_cR F_is_byte hr_is_byte T.k_is_byte T.g_is_byte Rr.pass0 (pa_cons (pv 1) pa_nil)))) (pss_one (SupX.ps_raiseSup rfl T.x_BadCodes hr (takes_of rfl rfl rfl rfl) (pa_cons pe_str pa_nil))) pss_nil)
      (pss_cons (ps_expr (Rr.pe_cR F_check_forms hr_check_forms T.k_check_forms T.g_check_forms (Rr.passW (takes_of rfl rfl rfl rfl)) (pa_cons (pv 1) (pa_cons (pv 2) pa_nil))))
      (pss_cons (ps_fld (pv 0) (pv 1) rfl)
      (pss_cons (ps_fld (pv 0) (pe_callB cr_sortedI rfl T.b_sorted (by decide +kernel) (pa_cons (pe_callTy (call_listD rfl) rfl T.b_list (by decide +kernel) (pa_cons (pv 2) pa_nil)) pa_nil)) rfl)
      (pss_one (ps_fld (pv 0) (pe_dc (own := [("byte", 3)]) (g := gName 3) rfl sc_CodeSet___init__.nd (pi_list (pe_fld (pv 0) rfl)) (blkOk_by (N := N_CodeSet___init__) (sc := defScope s_CodeSet___init__) (by decide +kernel)) (fun _ _ _ _ _ => (pg_name (i := 3) sc_CodeSet___init__.nd rfl (Or.inl rfl))) (fun _ _ _ _ _ => pts_nil) (fun _ _ _ _ _ => (pv 3)) (fun _ _ _ _ _ => (pe_dget (by exact hu) (pv 2) (pv 3) (fun _ _ => rfl)))) rfl)))))), ?_⟩
    obtain ⟨hx, hd, hf, hl, kE, kQ⟩ := h
    have hxd : x ≠ d := ne_of hx hd (by simp)
    show tSeq _ _ _ [some (V.ref x), some (.int stop), some (.ref d), none] H
    refine q_when (b := !isByte stop) (et_not (et_test (ev_R (ea_cons (ev_var rfl) ea_nil) sv_is_byte))) (fun hb H1 e1 => ?_) (fun hb H1 e1 => ?_)
    · show SupX.tMkSup _ _ _ _ _ _
      exact s_raiseW (vs := [.str "stop"]) (ea_cons ev_c ea_nil) rfl (by simp [Others]) (kE.mono (Ex.toS e1) fun a h => .inl h)
    · refine q_dropG (call_R (ea_cons (ev_var rfl) (ea_cons (ev_var rfl) ea_nil)) fun H2 e2 => ⟨stop, d, kvs, rfl, (e1.trans e2) d _ hd, hf.ex (e1.trans e2), hl, kE.mono (Ex.toS (e1.trans e2)) fun a h => .inl (.inr h), fun H3 e3 => ?_⟩)
      have e13 := (e1.trans e2).trans e3
      refine q_seq (s_fld (ev_var rfl) (ev_var rfl) (e13 x _ hx) T.cl_CodeSet T.n_CodeSet_stop (by simp) fun H4 e4 => ?_)
      have e14 := e13.trans e4
      have d4 : (upd H4 x (.ins (C_CodeSet K) dx [("stop", .int stop)])) d = some (.dK kvs) := by rw [upd_ne (Ne.symm hxd)]; exact e14 d _ hd
      have ik : IntKeys kvs := fun q hq => by
        obtain ⟨i, _, _, h, _⟩ := hf q hq
        exact ⟨i, h⟩
      dsimp only
      show tSeq (sFld _ _ _ _) _ _ _ (upd H4 x (.ins (C_CodeSet K) dx [("stop", .int stop)]))
      have x4 : (upd H4 x (.ins (C_CodeSet K) dx [("stop", .int stop)])) x = some (.ins (C_CodeSet K) dx [("stop", .int stop)]) := upd_same
      have S4 : ExS (oneA x) H (upd H4 x (.ins (C_CodeSet K) dx [("stop", .int stop)])) := ExS.mut (S := oneA x) (Ex.toS e14) (.inl rfl)
      generalize (upd H4 x (.ins (C_CodeSet K) dx [("stop", .int stop)])) = G4 at d4 x4 S4
      refine q_seq (fld_any ?_)
      refine sorted_any (ns := kvs.map fun q => keyI q.1) (by rw [← keys_ints ik]; exact el_listD (ev_var rfl) (.inl d4)) fun ks o H5 hperm ho e5 h5 => ?_
      refine fld_end (ev_var rfl) (e5 x _ x4) T.cl_CodeSet T.n_CodeSet_order (by simp) fun H6 e6 => ?_
      have o6 : (upd H6 x (.ins (C_CodeSet K) dx [("stop", .int stop), ("order", .ref o)])) o = some (.lst (ks.map V.int)) := by
        have hne : o ≠ x := fun z => by rw [z, x4] at ho; cases ho
        rw [upd_ne hne]; exact e6 o _ h5
      have d6 : (upd H6 x (.ins (C_CodeSet K) dx [("stop", .int stop), ("order", .ref o)])) d = some (.dK kvs) := by rw [upd_ne (Ne.symm hxd)]; exact e6 d _ (e5 d _ d4)
      have x6 : (upd H6 x (.ins (C_CodeSet K) dx [("stop", .int stop), ("order", .ref o)])) x = some (.ins (C_CodeSet K) dx [("stop", .int stop), ("order", .ref o)]) := upd_same
      have S6 : ExS (oneA x) H (upd H6 x (.ins (C_CodeSet K) dx [("stop", .int stop), ("order", .ref o)])) := ExS.mut (S := oneA x) ((S4.ex e5).ex e6) (.inl rfl)
      dsimp only
      show sFld _ _ _ _ _ _ (upd H6 x (.ins (C_CodeSet K) dx [("stop", .int stop), ("order", .ref o)]))
      generalize (upd H6 x (.ins (C_CodeSet K) dx [("stop", .int stop), ("order", .ref o)])) = G6 at o6 d6 x6 S6
      have hin : ∀ k ∈ ks, ∃ q ∈ kvs, q.1 = .inl k := fun k hk => by
        obtain ⟨q, hq, e⟩ := List.mem_map.mp (hperm.mem_iff.mp hk)
        obtain ⟨i, hi⟩ := ik q hq
        refine ⟨q, hq, ?_⟩
        rw [hi] at e ⊢
        rw [← e]; rfl
      have hval : ∀ k ∈ ks, ∃ v, valV kvs (.inl k) = some v := fun k hk => by
        obtain ⟨q, hq, e⟩ := hin k hk
        obtain ⟨v, hv⟩ := valV_of_mem hq
        exact ⟨v, by rw [← e]; exact hv⟩
      obtain ⟨zs, hz1, hz2⟩ := choose_list hval
      have hzl : zs.length = kvs.length := by
        have h1 : zs.length = ks.length := by rw [← hz1, List.length_map]
        rw [h1, hperm.length_eq, List.length_map]
      refine fld_any ?_
      refine el_dc (α := Int × V) (ys := zs) (ex := fun z => V.int z.1) (fun z => .inl z.1) (fun z => z.2) (by
        have h1 := ei_l (K := K) (te := tFld K (tVar 0) "order") (σ := [some (V.ref x), some (.int stop), some (.ref d), none]) (ev_fld (ev_var rfl) x6 T.cl_CodeSet T.n_CodeSet_order rfl) (sq_of o6)
        have e : (zs.map fun z => V.int z.1) = ks.map V.int := by rw [← hz1, List.map_map]; rfl
        rw [e]
        exact h1) (by rw [sizeLine_eq]; omega) (fun x => rfl) (fun z hz => ev_var rfl) (fun z hz => ev_dget (k := .inl z.1) (ev_var rfl) (ev_var rfl) (.inl d6) (hz2 z hz)) G6 (Ex.refl _) _ fun t H7 ht e7 h7 => ?_
      refine fld_end (ev_var rfl) (e7 x _ x6) T.cl_CodeSet T.n_CodeSet_table (by simp) fun H8 e8 => ?_
      have e68 := e7.trans e8
      have S8 : ExS (oneA x) H (upd H8 x (.ins (C_CodeSet K) dx [("stop", .int stop), ("order", .ref o), ("table", .ref t)])) := ExS.mut (S := oneA x) (S6.ex e68) (.inl rfl)
      refine kQ _ o t ks (madeK (zs.map fun z => ((.inl z.1 : Key), z.2))) S8 ⟨upd_same, ?_, ?_, fun k hk => ?_⟩
      · rw [upd_ne (ne_of (e68 o _ o6) (e68 x _ x6) (by simp))]; exact e68 o _ o6
      · have hne : t ≠ x := fun z => by rw [z, x6] at ht; cases ht
        rw [upd_ne hne]; exact e8 t _ h7
      · obtain ⟨z, hz, e⟩ : ∃ z ∈ zs, z.1 = k := by
          rw [← hz1] at hk
          obtain ⟨z, hz, e⟩ := List.mem_map.mp hk
          exact ⟨z, hz, e⟩
        obtain ⟨v, hv1, hv2⟩ := madeK_there (ps := zs.map fun z => ((.inl z.1 : Key), z.2)) (List.mem_map_of_mem hz)
        rw [← e]
        obtain ⟨z', hz', e'⟩ := List.mem_map.mp hv2
        have hq := valV_mem (hz2 z' hz')
        obtain ⟨i, a, fo, _, h2, h3, h4⟩ := hf _ hq
        injection e' with e1' e2'
        refine ⟨a, fo, ?_, ?_, h4⟩
        · rw [hv1, ← e2']
          exact congrArg some h2
        · refine S8 a fo (fun z => ?_) h3
          have z : a = x := z
          subst z
          obtain ⟨_, _, _, _, e, _⟩ := h4
          rw [hx, e] at h3
          simp at h3
open PySem PySem.Spec PyProof.Rows L2 Evl Hb TL
def InstrOk (ks xs : List Int) : Prop := ∃ x r, xs = x :: r ∧ x ∈ ks
theorem inV_int {n : Int} {ks : List Int} : inV (V.int n) (ks.map V.int) = decide (n ∈ ks) := by
  unfold inV
  induction ks with
  | nil => rfl
  | cons k r ih =>
    rw [List.map_cons, List.any_cons, ih]
    by_cases h : k = n
    · subst h; simp [eqV]
    · have h' : ¬ n = k := fun z => h z.symm
      simp [h, h', eqV]
theorem flat_ints (ks : List Int) : (ks.map V.int).all flatV = true := by
  rw [List.all_map, List.all_eq_true]
  intro x _
  rfl
theorem el_listLT {K : PySem.W.Frag} {te : TE} {σ : L2.St} {H : Hp} {p : Addr} {xs : List V} (h : Ev te σ H (.ref p)) (hp : SqL K H p xs ∨ SqT K H p xs) : EvL (tCB (fun xs H Q => ∃ p ys, xs = [V.ref p] ∧ (SqL K H p ys ∨ SqT K H p ys) ∧ ∀ l, H l = none → Q (.ref l) (upd H l (.lst ys))) (tCons te tNil)) σ H xs := fun H1 e Q q =>
  h H1 e _ fun H2 e2 => ⟨p, xs, rfl, hp.elim (fun z => .inl (ex_l (e.trans e2) z)) (fun z => .inr (ex_t (e.trans e2) z)), fun l hl => q l _ (fresh_back e2 hl) (e2.trans (Ex.new hl)) upd_same⟩
theorem eu_tupleL {K : PySem.W.Frag} {te : TE} {σ : L2.St} {H : Hp} {xs : List V} (h : EvL te σ H xs) : EvU (tCB (fun xs H Q => ∃ p ys, xs = [V.ref p] ∧ ((SqL K H p ys ∧ ∀ l, H l = none → Q (.ref l) (upd H l (.tup ys))) ∨ (SqT K H p ys ∧ Q (.ref p) H))) (tCons te tNil)) σ H xs := fun H1 e Q q =>
  h H1 e _ fun p H2 _ e2 h2 => ⟨p, xs, rfl, .inl ⟨sq_of h2, fun l hl => q l _ (fresh_back e2 hl) (e2.trans (Ex.new hl)) upd_same⟩⟩
theorem cut_mid (ns : List Int) {a b : Nat} (hb : b ≤ ns.length) (ha : a ≤ b) : cutV (ns.map V.int) (some (a : Int)) (some (b : Int)) = ((ns.drop a).take (b - a)).map V.int := by
  unfold cutV
  rw [HT.sIx_nat, HT.sIx_nat, List.length_map, Nat.min_eq_left hb, Nat.min_eq_left (by omega), ← List.map_drop, ← List.map_take]
def sp_call (K : PySem.W.Frag) : Sp := fun vs H Q E => ∃ (c vp : Addr) (at_ : Int) (dx o t : Addr) (stop : Int) (ks : List Int) (tkvs : List (Key × V)) (ns : List Int), vs = [.ref c, .ref vp, .int at_] ∧ CodesAt K H c dx o t stop ks tkvs ∧ (SqL K H vp (ns.map V.int) ∨ SqT K H vp (ns.map V.int)) ∧
  (∀ p H2 xs, Ex H H2 → H2 p = some (.tup (xs.map V.int)) → InstrOk ks xs → 0 ≤ at_ → at_ < ns.length → Q (.ref p) H2) ∧ RaiseX (C_NotWhole K) [("place", .int at_)] H E
theorem ok_CodeSet___call__ {P : Program} {w : World} {K : PySem.W.Frag} {mg : Str → Option Value} {base : Heap} (T : Txt P K mg) : FnR P w K mg base (L2.CX P w) 3 (f_CodeSet___call__ K) (sp_call K) := by
  obtain ⟨fd, F⟩ := T.F_CodeSet___call__
  refine Rr.fnR_ok (F.ok sc_CodeSet___call__ (fun vs H Q E h => ?_) (fun cdv A outer s H vs Q E hr h => ?_)) (F.bindsN fun _ _ _ _ _ _ us hl => match us, hl with | [_, _, _], _ => rfl)
  · obtain ⟨c, vp, at_, dx, o, t, stop, ks, tkvs, ns, rfl, _⟩ := h
    rfl
  · obtain ⟨c, vp, at_, dx, o, t, stop, ks, tkvs, ns, rfl, h⟩ := h
    have hu := hu_of hr
    refine ⟨_, (pss_cons (ps_set (i := 3) sc_CodeSet___call__.nd rfl (Or.inl rfl) (pe_callTy call_list_of rfl T.b_list (by decide +kernel) (pa_cons (pv 1) pa_nil)))
      (pss_cons (ps_if (PW.pt (pw_or (pt_cmpR op_lt (pv 2) pe_int (nomark _)) (pw_or (pt_cmpR op_ge (pv 2) (pe_callB call_len_seq rfl T.b_len (by decide +kernel) (pa_cons (pv 3) pa_nil)) (nomark _)) (pw_or1 (pt_cmpR op_notIn_seq (pe_ix ix_list (pv 3) (pv 2) (fun _ _ => rfl)) (pe_fld (pv 0) rfl) (by rfl)))))) (pss_one (SupX.ps_raiseSup rfl T.x_NotWhole hr (takes_of rfl rfl rfl rfl) (pa_cons (pv 2) pa_nil))) pss_nil)
      (pss_cons (ps_set (i := 4) sc_CodeSet___call__.nd rfl (Or.inl rfl) (pe_op op_add (pv 2) (pe_fld (pe_dget (by exact hu) (pe_fld (pv 0) rfl) (pe_ix ix_list (pv 3) (pv 2) (fun _ _ => rfl)) (fun _ _ => rfl)) rfl)))
      (pss_cons (ps_if (pt_cmpR op_gt (pv 4) (pe_callB call_len_seq rfl T.b_len (by decide +kernel) (pa_cons (pv 3) pa_nil)) (nomark _)) (pss_one (SupX.ps_raiseSup rfl T.x_NotWhole hr (takes_of rfl rfl rfl rfl) (pa_cons (pv 2) pa_nil))) pss_nil)
      (pss_one (ps_ret (pe_callTy call_tuple_of rfl T.b_tuple (by decide +kernel) (pa_cons (pe_slice sl_list (pv 3) (po_some (pv 2)) (po_some (pv 4))) pa_nil)))))))), ?_⟩
    obtain ⟨C, hv, kQ, kE⟩ := h
    show tSeq _ _ _ [some (V.ref c), some (.ref vp), some (.int at_), none, none] H
    refine q_asgL (el_listLT (ev_var rfl) hv) fun p H1 hp e1 h1 => ?_
    have C1 := C.ex e1
    show tSeq _ _ _ [some (V.ref c), some (.ref vp), some (.int at_), some (.ref p), none] H1
    have hlen : (ns.map V.int).length = ns.length := List.length_map _
    have hval : 0 ≤ at_ → at_ < ns.length → ∃ (a : Nat) (n : Int), at_ = a ∧ ns[a]? = some n := fun h0 hlt => by
      obtain ⟨a, rfl⟩ := Int.eq_ofNat_of_zero_le h0
      have : a < ns.length := by omega
      exact ⟨a, ns[a], rfl, List.getElem?_eq_getElem this⟩
    have eord : Ev (tFld K (tVar 0) "order") [some (V.ref c), some (.ref vp), some (.int at_), some (.ref p), none] H1 (.ref o) := ev_fld (ev_var rfl) C1.ob T.cl_CodeSet T.n_CodeSet_order rfl
    refine q_when (b := decide (at_ < 0) || (decide (at_ ≥ ((ns.map V.int).length : Nat)) || !(ns[at_.toNat]?.any fun n => decide (n ∈ ks)))) (et_or ?_ fun h0 => et_or ?_ fun h1' => ?_) (fun hb H2 e2 => ?_) (fun hb H2 e2 => ?_)
    · exact et_test (ev_op (ev_var rfl) ev_c rv_I0)
    · exact et_test (ev_op (ev_var rfl) (ev_cb (ea_cons (ev_var rfl) ea_nil) (rc_len_l (sq_of h1))) rv_I0)
    · rw [decide_eq_false_iff_not] at h0 h1'
      rw [hlen] at h1'
      obtain ⟨a, n, rfl, hn⟩ := hval (by omega) (by omega)
      rw [Int.toNat_natCast, hn, Option.any_some, ← inV_int]
      exact et_test (ev_op (ev_op (ev_var rfl) (ev_var rfl) (rv_ixL (sq_of h1) (atI_nat (by rw [List.getElem?_map, hn]; rfl)))) eord (rv_niL (sq_of C1.or) rfl (flat_ints ks)))
    · show SupX.tMkSup _ _ _ _ _ _
      refine s_raise (vs := [.int at_]) (ea_cons (ev_var rfl) ea_nil) rfl ?_
      exact kE.mono (e1.trans e2)
    · simp only [Bool.or_eq_false_iff, decide_eq_false_iff_not, Bool.not_eq_false'] at hb
      obtain ⟨h0, hlt, hin⟩ := hb
      rw [hlen] at hlt
      obtain ⟨a, n, rfl, hn⟩ := hval (by omega) (by omega)
      rw [Int.toNat_natCast, hn, Option.any_some, decide_eq_true_iff] at hin
      have C2 := C1.ex e2
      have h2 := e2 p _ h1
      obtain ⟨fa, fo, f1, f2, fdx, nm, fl, i, rfl, hi⟩ := C2.fm n hin
      have hal : a < ns.length := (List.getElem?_eq_some_iff.mp hn).1
      refine q_asg (v := .int ((a : Int) + i)) (ev_op (ev_var rfl) (ev_fld (ev_dget (k := .inl n) (ev_fld (ev_var rfl) C2.ob T.cl_CodeSet T.n_CodeSet_table rfl) (ev_op (ev_var rfl) (ev_var rfl) (rv_ixL (sq_of h2) (atI_nat (by rw [List.getElem?_map, hn]; rfl)))) (.inl C2.tb) f1) f2 T.cl_Form T.n_Form_length rfl) rv_I0) fun H3 e3 => ?_
      show tSeq _ _ _ [some (V.ref c), some (.ref vp), some (.int a), some (.ref p), some (.int ((a : Int) + i))] H3
      refine q_when (b := decide (((a : Int) + i) > ((ns.map V.int).length : Nat))) (et_test (ev_op (ev_var rfl) (ev_cb (ea_cons (ev_var rfl) ea_nil) (rc_len_l (sq_of (e3 p _ h2)))) rv_I0)) (fun hb H4 e4 => ?_) (fun hb H4 e4 => ?_)
      · show SupX.tMkSup _ _ _ _ _ _
        refine s_raise (vs := [.int (a : Int)]) (ea_cons (ev_var rfl) ea_nil) rfl ?_
        exact kE.mono (((e1.trans e2).trans e3).trans e4)
      · rw [decide_eq_false_iff_not, hlen] at hb
        obtain ⟨b, hbe⟩ := Int.eq_ofNat_of_zero_le (show 0 ≤ (a : Int) + i by omega)
        rw [hbe] at hb ⊢
        refine s_retU (eu_tupleL (el_sl (ev_var rfl) (eo_some (ev_var rfl)) (eo_some (ev_var rfl)) (sq_of (e4 p _ (e3 p _ h2))))) fun q H5 hq e5 h5 => ?_
        have e15 := (((e1.trans e2).trans e3).trans e4).trans e5
        rw [cut_mid ns (by omega) (by omega)] at h5
        refine kQ q H5 _ e15 h5 ?_ (by omega) (by omega)
        have hd : ns.drop a = n :: ns.drop (a + 1) := by
          rw [List.drop_eq_getElem_cons hal]
          congr 1
          exact (List.getElem?_eq_some_iff.mp hn).2
        rw [hd]
        obtain ⟨m, hm⟩ : ∃ m, b - a = m + 1 := ⟨b - a - 1, by omega⟩
        rw [hm]
        exact ⟨n, _, rfl, hin⟩
def RetInts (H : Hp) (Q : VK) (P : List Int → Prop) : Prop := ∀ p H2 (ys : List Int), H p = none → Ex H H2 → H2 p = some (.tup (ys.map V.int)) → P ys → Q (.ref p) H2
def sp_followers (K : PySem.W.Frag) : Sp := fun vs H Q _ => ∃ (c tp : Addr) (place : Int) (dx o t : Addr) (stop : Int) (ks : List Int) (tkvs : List (Key × V)) (xs : List Int), vs = [.ref c, .ref tp, .int place] ∧ CodesAt K H c dx o t stop ks tkvs ∧ SqT K H tp (xs.map V.int) ∧ InstrOk ks xs ∧ RetInts H Q fun ys => ys.length ≤ 2
theorem atI_lastV {f : List Int} {x : Int} (h : f.getLast? = some x) : atI (f.map V.int) (-1) = some (V.int x) := by
  have hl : f ≠ [] := fun z => by rw [z] at h; cases h
  have h0 : 0 < f.length := List.length_pos_iff.mpr hl
  have e : f[f.length - 1]? = some x := by rw [← List.getLast?_eq_getElem?]; exact h
  unfold atI ixN
  simp only [List.length_map]
  have e3 : (-1 + ((f.length : Nat) : Int)).toNat = f.length - 1 := by omega
  have e4 : (1 : Int) ≤ (f.length : Nat) := by omega
  simp [e, h0, e3, e4]
theorem ok_CodeSet_followers {P : Program} {w : World} {K : PySem.W.Frag} {mg : Str → Option Value} {base : Heap} (T : Txt P K mg) : FnR P w K mg base (CX0) 1 (f_CodeSet_followers K) (sp_followers K) := by
  obtain ⟨fd, F⟩ := T.F_CodeSet_followers
  refine Rr.fnR_ok (F.ok sc_CodeSet_followers (fun vs H Q E h => ?_) (fun cdv A outer s H vs Q E hr h => ?_)) (F.bindsN fun _ _ _ _ _ _ us hl => match us, hl with | [_, _, _], _ => rfl)
  · obtain ⟨c, tp, place, dx, o, t, stop, ks, tkvs, xs, rfl, _⟩ := h
    rfl
  · obtain ⟨c, tp, place, dx, o, t, stop, ks, tkvs, xs, rfl, h⟩ := h
    have hu := hu_of hr
    refine ⟨_, PSs.nox (pss_cons (ps_set (i := 3) sc_CodeSet_followers.nd rfl (Or.inl rfl) (pe_fld (pe_dget (by exact hu) (pe_fld (pv 0) rfl) (pe_ix ix_tup (pv 1) pe_int (fun _ _ => rfl)) (fun _ _ => rfl)) rfl))
      (pss_cons (ps_if (pt_cmpR op_eq (pv 3) pe_str (nomark _)) (pss_one (ps_ret (pe_tup pa_nil))) pss_nil)
      (pss_cons (ps_set (i := 4) sc_CodeSet_followers.nd rfl (Or.inl rfl) (pe_op op_add (pv 2) (pe_callB call_len_seq rfl T.b_len (by decide +kernel) (pa_cons (pv 1) pa_nil))))
      (pss_cons (ps_if (pt_cmpR op_eq (pv 3) pe_str (nomark _)) (pss_one (ps_ret (pe_tup (pa_cons (pv 4) pa_nil)))) pss_nil)
      (pss_cons (ps_set (i := 5) sc_CodeSet_followers.nd rfl (Or.inl rfl) (pe_ix ix_tup (pv 1) (pe_un un_neg pe_int) (fun _ _ => rfl)))
      (pss_cons (ps_if (pt_cmpR op_ge (pv 5) pe_int (nomark _)) (pss_one (ps_aug (i := 5) sc_CodeSet_followers.nd rfl (Or.inl rfl) pe_int ip_sub)) pss_nil)
      (pss_cons (ps_if (PW.pt (pw_or (pt_cmpR op_eq (pv 3) pe_str (nomark _)) (pw_or1 (pt_cmpR op_eq (pv 5) pe_int (nomark _))))) (pss_one (ps_ret (pe_tup (pa_cons (pe_op op_add (pv 4) (pv 5)) pa_nil)))) pss_nil)
      (pss_one (ps_ret (pe_tup (pa_cons (pv 4) (pa_cons (pe_op op_add (pv 4) (pv 5)) pa_nil)))))))))))), ?_⟩
    obtain ⟨C, ht, ⟨x0, r0, rfl, hin⟩, kQ⟩ := h
    obtain ⟨fa, fo, f1, f2, fdx, nm, fl, i, rfl, hi⟩ := C.fm x0 hin
    obtain ⟨last, hlast⟩ : ∃ l, (x0 :: r0).getLast? = some l := ⟨_, List.getLast?_eq_some_getLast (by simp)⟩
    show tSeq _ _ _ [some (V.ref c), some (.ref tp), some (.int place), none, none, none] H
    refine q_asg (v := .str fl) (ev_fld (ev_dget (k := .inl x0) (ev_fld (ev_var rfl) C.ob T.cl_CodeSet T.n_CodeSet_table rfl) (ev_op (ev_var rfl) ev_c (rv_ixT ht (atI_nat (j := 0) rfl))) (.inl C.tb) f1) f2 T.cl_Form T.n_Form_flow rfl) fun H1 e1 => ?_
    show tSeq _ _ _ [some (V.ref c), some (.ref tp), some (.int place), some (.str fl), none, none] H1
    have fin : ∀ {H' : Hp} {te : TE} {σ : L2.St} (ys : List Int), Ex H H' → EvU te σ H' (ys.map V.int) → ys.length ≤ 2 → ∀ {D : Ends}, D.rt = Q → tRet te D σ H' := fun ys e h hl D hD => by
      refine s_retU h fun p H2 hp e2 h2 => ?_
      rw [hD]
      exact kQ p H2 ys (fresh_back e hp) (e.trans e2) h2 hl
    refine q_when (et_test (ev_op (ev_var rfl) ev_c (rv_eq rfl))) (fun hb H2 e2 => ?_) (fun hb H2 e2 => ?_)
    · exact fin [] (e1.trans e2) (eu_tup ea_nil (by simp)) (by simp) rfl
    have h2t := ex_t (e1.trans e2) ht
    refine q_asg (v := .int (place + ((((x0 :: r0).map V.int).length : Nat) : Int))) (ev_op (ev_var rfl) (ev_cb (ea_cons (ev_var rfl) ea_nil) (rc_len_t h2t)) rv_I0) fun H3 e3 => ?_
    generalize place + ((((x0 :: r0).map V.int).length : Nat) : Int) = high
    show tSeq _ _ _ [some (V.ref c), some (.ref tp), some (.int place), some (.str fl), some (.int high), none] H3
    refine q_when (et_test (ev_op (ev_var rfl) ev_c (rv_eq rfl))) (fun hb H4 e4 => ?_) (fun hb H4 e4 => ?_)
    · exact fin [high] (((e1.trans e2).trans e3).trans e4) (eu_tup (ea_cons (ev_var rfl) ea_nil) (by simp)) (by simp) rfl
    have e14 := ((e1.trans e2).trans e3).trans e4
    refine q_asg (v := .int last) (ev_op (ev_var rfl) (ev_un ev_c ru_neg) (rv_ixT (ex_t e14 ht) (atI_lastV hlast))) fun H5 e5 => ?_
    show tSeq _ _ _ [some (V.ref c), some (.ref tp), some (.int place), some (.str fl), some (.int high), some (.int last)] H5
    -- the distance, one way or the other
    have tail : ∀ (dst : Int) H6, Ex H H6 → tSeq (tIfS (tOr (tTest (tOp rEq (tVar 3) (tC (.str "jump")))) (tTest (tOp rEq (tVar 5) (tC (.int 0))))) (tRet (tTup (tCons (tOp (rI0 fun i j => .int (i + j)) (tVar 4) (tVar 5)) tNil))) tNext) (tRet (tTup (tCons (tVar 4) (tCons (tOp (rI0 fun i j => .int (i + j)) (tVar 4) (tVar 5)) tNil)))) { nx := fun _ H' => Q .non H', rt := Q }
        [some (V.ref c), some (.ref tp), some (.int place), some (.str fl), some (.int high), some (.int dst)] H6 := fun dst H6 e6 => by
      refine q_when (et_or (et_test (ev_op (ev_var rfl) ev_c (rv_eq rfl))) fun _ => et_test (ev_op (ev_var rfl) ev_c (rv_eq rfl))) (fun hb H7 e7 => ?_) (fun hb H7 e7 => ?_)
      · exact fin [high + dst] (e6.trans e7) (eu_tup (ea_cons (ev_op (ev_var rfl) (ev_var rfl) rv_I0) ea_nil) (by simp)) (by simp) rfl
      · exact fin [high, high + dst] (e6.trans e7) (eu_tup (ea_cons (ev_var rfl) (ea_cons (ev_op (ev_var rfl) (ev_var rfl) rv_I0) ea_nil)) (by simp)) (by simp) rfl
    refine q_when (et_test (ev_op (ev_var rfl) ev_c rv_I0)) (fun hb H6 e6 => ?_) (fun hb H6 e6 => ?_)
    · exact s_aug (f := fun i j => i - j) (a := last) (b := 256) rfl ev_c fun H7 e7 => tail _ H7 (((e14.trans e5).trans e6).trans e7)
    · exact tail _ H6 ((e14.trans e5).trans e6)
open PySem PySem.Spec PyProof.Rows L2 Evl Hb TL
def sp_instr (K : PySem.W.Frag) : Sp := fun vs H Q _ => ∃ (c vp : Addr) (at_ : Int) (dx o t : Addr) (stop : Int) (ks : List Int) (tkvs : List (Key × V)) (ns : List Int), vs = [.ref c, .ref vp, .int at_] ∧ CodesAt K H c dx o t stop ks tkvs ∧ (SqL K H vp (ns.map V.int) ∨ SqT K H vp (ns.map V.int)) ∧
  (∀ p H2 xs, Ex H H2 → H2 p = some (.tup (xs.map V.int)) → InstrOk ks xs → 0 ≤ at_ → at_ < ns.length → Q (.ref p) H2) ∧ ∀ H2, Ex H H2 → Q .non H2
theorem ok_instruction_at {P : Program} {w : World} {K : PySem.W.Frag} {mg : Str → Option Value} {base : Heap} (T : Txt P K mg) : FnR P w K mg base (CX0) 4 (f_instruction_at K) (sp_instr K) := by
  obtain ⟨fd, F⟩ := T.F_instruction_at
  have F_CodeSet___call__ := ok_CodeSet___call__ (w := w) (base := base) T
  refine Rr.fnR_ok (F.ok sc_instruction_at (fun vs H Q E h => ?_) (fun cdv A outer s H vs Q E hr h => ?_)) (F.bindsN fun _ _ _ _ _ _ us hl => match us, hl with | [_, _, _], _ => rfl)
  · obtain ⟨c, vp, at_, dx, o, t, stop, ks, tkvs, ns, rfl, _⟩ := h
    rfl
  · obtain ⟨c, vp, at_, dx, o, t, stop, ks, tkvs, ns, rfl, h⟩ := h
    have hr_CodeSet___call__ : Room 3 _ := hr.mono (by decide)
    refine ⟨_, PSs.nox (pss_one (ps_try_only rfl rfl ⟨rfl, by decide, .inl T.x_NotWhole.gC⟩ takes_none5 (fun W pn xe tk hp => pss_one (ps_ret (Rr.pe_oR (pv 0) T.co_CodeSet F_CodeSet___call__ hr_CodeSet___call__ (Rr.passW tk) (pa_cons (pv 1) (pa_cons (pv 2) pa_nil))))) (fun a oe cls d pn hz hf => pss_one (ps_ret pe_non)))), ?_⟩
    obtain ⟨C, hv, kQ, kN⟩ := h
    show Rr.tOR _ _ _ _ _ _ _ _
    refine call_oR (ev_var rfl) C.ob (ea_cons (ev_var rfl) (ea_cons (ev_var rfl) ea_nil)) fun H3 e13 => ?_
    refine ⟨c, vp, at_, dx, o, t, stop, ks, tkvs, ns, rfl, C.ex e13, hv.elim (fun z => .inl (ex_l e13 z)) (fun z => .inr (ex_t e13 z)), fun p H4 xs e4 h4 hi h0 hl => kQ p H4 xs (e13.trans e4) h4 hi h0 hl, fun H4 d e4 hd h4 => ?_⟩
    exact ⟨true, T.ex_NotWhole, fun _ a ha => kN _ (e13.trans e4), fun z => by cases z⟩
open PySem PySem.Spec PyProof.Rows L2 Evl Hb TL
def LaidOk (ks ns : List Int) (H : Hp) (kvs : List (Key × V)) : Prop := ∀ q ∈ kvs, ∃ i : Int, q.1 = .inl i ∧ (q.2 = .non ∨ ∃ (p : Addr) (xs : List Int), q.2 = .ref p ∧ H p = some (.tup (xs.map V.int)) ∧ InstrOk ks xs ∧ 0 ≤ i ∧ i < ns.length)
theorem LaidOk.ex {ks ns : List Int} {H H' : Hp} {kvs : List (Key × V)} (h : LaidOk ks ns H kvs) (e : ∀ p xs, H p = some (.tup xs) → H' p = some (.tup xs)) : LaidOk ks ns H' kvs := fun q hq => by
  obtain ⟨i, h1, h2⟩ := h q hq
  refine ⟨i, h1, h2.imp id ?_⟩
  rintro ⟨p, xs, a, b, c⟩
  exact ⟨p, xs, a, e p _ b, c⟩
def unlaid (n : Nat) (kvs : List (Key × V)) : Nat := (List.range n).countP fun (i : Nat) => (valV kvs (.inl (i : Int))).isNone
theorem countP_less {α : Type} {p q : α → Bool} {j : α} : ∀ {l : List α}, (∀ x ∈ l, q x = true → p x = true) → j ∈ l → p j = true → q j = false → l.countP q < l.countP p
  | [], _, h, _, _ => by simp at h
  | x :: l, hi, hj, hp, hq => by
    have hle : l.countP q ≤ l.countP p := List.countP_mono_left fun y hy => hi y (List.mem_cons_of_mem _ hy)
    rw [List.countP_cons, List.countP_cons]
    by_cases e : j = x
    · subst e
      rw [hp, hq]
      simp
      omega
    · have hj' : j ∈ l := by
        rcases List.mem_cons.mp hj with z | z
        · exact absurd z e
        · exact z
      have := countP_less (fun y hy => hi y (List.mem_cons_of_mem _ hy)) hj' hp hq
      have hx := hi x (List.mem_cons_self ..)
      cases hqx : q x with
      | true => rw [hx hqx]; simp; omega
      | false => cases p x <;> simp <;> omega
theorem unlaid_put (n : Nat) (kvs : List (Key × V)) (k : Int) (v : V) : unlaid n (putK kvs (.inl k) v) ≤ unlaid n kvs := by
  refine List.countP_mono_left fun i _ h => ?_
  rw [valV_put] at h
  split at h
  · cases h
  · exact h
theorem unlaid_less {n : Nat} {kvs : List (Key × V)} {k : Int} (v : V) (h0 : 0 ≤ k) (hn : k < n) (hv : (valV kvs (.inl k)).isSome = false) : unlaid n (putK kvs (.inl k) v) < unlaid n kvs := by
  obtain ⟨j, rfl⟩ := Int.eq_ofNat_of_zero_le h0
  refine countP_less (j := j) (fun i _ h => ?_) (List.mem_range.mpr (by omega)) ?_ ?_
  · rw [valV_put] at h
    split at h
    · cases h
    · exact h
  · cases q : valV kvs (.inl (j : Int)) with
    | none => rfl
    | some u => rw [q] at hv; cases hv
  · rw [valV_put, if_pos rfl]; rfl
theorem unlaid_le (n : Nat) (kvs : List (Key × V)) : unlaid n kvs ≤ n := by
  have := List.countP_le_length (p := fun i : Nat => (valV kvs (.inl (i : Int))).isNone) (l := List.range n)
  rw [List.length_range] at this
  exact this
theorem eqv_nil : ∀ ws : List Int, PyData.eqv (.list (ws.map PyData.int)) (.list []) = ws.isEmpty
  | [] => by simp [PyData.eqv, PyData.eqvAll]
  | w :: ws => by simp [PyData.eqv, PyData.eqvAll]
theorem dp_ints {K : PySem.W.Frag} {H : Hp} : ∀ ws : List Int, DpAll K H (ws.map V.int) (ws.map PyData.int)
  | [] => .nil
  | w :: ws => .cons (.int w) (dp_ints ws)
theorem lay_ints : ∀ ws : List Int, PyData.canLayAll0 (ws.map PyData.int) = true ∧ PyData.depthAll (ws.map PyData.int) ≤ 1
  | [] => by simp [PyData.canLayAll0, PyData.depthAll]
  | w :: ws => by
    have := lay_ints ws
    simp [PyData.canLayAll0, PyData.canLay0, PyData.depthAll, PyData.depth, this.1]
    omega
theorem rv_neNil {K : PySem.W.Frag} {H : Hp} {p q : Addr} {ws : List Int} (hp : H p = some (.lst (ws.map V.int))) (hq : H q = some (.lst [])) : RV (rNeD K) (.ref p) (.ref q) H (.bl (!ws.isEmpty)) := fun H1 e Q k => by
  refine ⟨.list (ws.map PyData.int), .list [], .lst (sq_of (e p _ hp)) (dp_ints ws), .lst (sq_of (e q _ hq)) .nil, ?_, by decide +kernel, ?_⟩
  · have := lay_ints ws
    simp [SeqAt.shaped, PyData.canLay0, PyData.depth, this.1]
    omega
  · rw [eqv_nil]
    exact k H1 (Ex.refl H1)
theorem laid_nil {ks ns : List Int} {H : Hp} : LaidOk ks ns H [] := fun q h => by cases h
def ExpW (c vp rp : Addr) (ks ns : List Int) (H : Hp) (m0 : Nat) (D1 D2 : Addr) (m : Nat) (σ : L2.St) (H' : Hp) : Prop := ∃ (kvs : List (Key × V)) (ws : List Int) (w5 w6 : Option V), σ = [some (V.ref c), some (.ref vp), some (.ref rp), some (.ref D1), some (.ref D2), w5, w6] ∧ Ex H H' ∧ H' D1 = some (.dK kvs) ∧ H' D2 = some (.lst (ws.map V.int)) ∧
  LaidOk ks ns H' kvs ∧ 3 * unlaid ns.length kvs + ws.length ≤ m ∧ kvs.length + m ≤ m0
def sp_explore (K : PySem.W.Frag) : Sp := fun vs H Q _ => ∃ (c vp rp : Addr) (dx o t : Addr) (stop : Int) (ks : List Int) (tkvs : List (Key × V)) (ns rs : List Int), vs = [.ref c, .ref vp, .ref rp] ∧ CodesAt K H c dx o t stop ks tkvs ∧ SqL K H vp (ns.map V.int) ∧ SqT K H rp (rs.map V.int) ∧ ns.length ≤ 95000 ∧ rs.length ≤ 1000 ∧
  ∀ p H2 kvs, H p = none → Ex H H2 → H2 p = some (.dK kvs) → LaidOk ks ns H2 kvs → kvs.length ≤ 3 * ns.length + rs.length → Q (.ref p) H2
theorem ok_explore {P : Program} {w : World} {K : PySem.W.Frag} {mg : Str → Option Value} {base : Heap} (T : Txt P K mg) : FnR P w K mg base (CX0) 5 (f_explore K) (sp_explore K) := by
  obtain ⟨fd, F⟩ := T.F_explore
  have F_instruction_at := ok_instruction_at (w := w) (base := base) T
  have F_CodeSet_followers := ok_CodeSet_followers (w := w) (base := base) T
  refine Rr.fnR_ok (F.ok sc_explore (fun vs H Q E h => ?_) (fun cdv A outer s H vs Q E hr h => ?_)) (F.bindsN fun _ _ _ _ _ _ us hl => match us, hl with | [_, _, _], _ => rfl)
  · obtain ⟨c, vp, rp, dx, o, t, stop, ks, tkvs, ns, rs, rfl, _⟩ := h
    rfl
  · obtain ⟨c, vp, rp, dx, o, t, stop, ks, tkvs, ns, rs, rfl, h⟩ := h
    have hu := hu_of hr
    have hr_instruction_at : Room 4 _ := hr.mono (by decide)
    have hr_CodeSet_followers : Room 1 _ := hr.mono (by decide)
    refine ⟨_, PSs.nox (pss_cons (ps_set (i := 3) sc_explore.nd rfl (Or.inl rfl) pe_dnewK)
      (pss_cons (ps_set (i := 4) sc_explore.nd rfl (Or.inl rfl) (pe_callTy call_list_of rfl T.b_list (by decide +kernel) (pa_cons (pv 2) pa_nil)))
      (pss_cons (ps_while PassesOwn.never (pt_cmpR (op_neD hr.units) (pv 4) (pe_lst pa_nil) (nomark _)) (pss_cons (ps_set (i := 5) sc_explore.nd rfl (Or.inl rfl) (pe_bm0 PySem.F.plainAttrs_list PySem.F.slot_list_pop PySem.F.type_list_pop mt_pop (pv 4)))
      (pss_one (ps_if (pt_cmp (pc_dnotin (by exact hu) (pv 5) (pv 3))) (pss_cons (ps_set (i := 6) sc_explore.nd rfl (Or.inl rfl) (Rr.pe_cR F_instruction_at hr_instruction_at T.k_instruction_at T.g_instruction_at Rr.pass0 (pa_cons (pv 0) (pa_cons (pv 1) (pa_cons (pv 5) pa_nil)))))
      (pss_cons (ps_dput (by exact hu) (pv 3) (pv 5) (pv 6) rfl)
      (pss_one (ps_if (pt_cmpR op_notN (pv 6) pe_non (nomark _)) (pss_one (ps_expr (pe_bm PySem.F.plainAttrs_list PySem.F.slot_list_extend PySem.F.type_list_extend mt_extend (pv 4) (pa_cons (pe_callTy call_list_of rfl T.b_list (by decide +kernel) (pa_cons (Rr.pe_mR (pv 0) T.cl_CodeSet T.m_CodeSet_followers F_CodeSet_followers hr_CodeSet_followers Rr.pass0 (pa_cons (pv 6) (pa_cons (pv 5) pa_nil))) pa_nil)) pa_nil)))) pss_nil)))) pss_nil))))
      (pss_one (ps_ret (pv 3)))))), ?_⟩
    obtain ⟨C, hv, hrs, hn, hrl, kQ⟩ := h
    show tSeq _ _ _ [some (V.ref c), some (.ref vp), some (.ref rp), none, none, none, none] H
    refine q_asgG (fun D1 hD1 => ?_)
    have e1 : Ex H (upd H D1 (.dK [])) := Ex.new hD1
    have hd1 : (upd H D1 (.dK [])) D1 = some (.dK []) := upd_same
    generalize (upd H D1 (.dK [])) = H1 at e1 hd1
    dsimp only
    show tSeq (tAsg _ _) _ _ [some (V.ref c), some (.ref vp), some (.ref rp), some (.ref D1), none, none, none] H1
    refine q_asgL (el_listLT (ev_var rfl) (.inr (ex_t e1 hrs))) fun D2 H2 hD2 e2 hd2 => ?_
    have hD2' : H D2 = none := fresh_back e1 hD2
    have hne : D1 ≠ D2 := ne_of_none hd1 hD2
    have hu0 := unlaid_le ns.length []
    refine q_while (ExpW c vp rp ks ns H (3 * ns.length + rs.length) D1 D2) (3 * ns.length + rs.length) ⟨[], rs, _, _, rfl, e1.trans e2, e2 D1 _ hd1, hd2, laid_nil, by omega, by show 0 + _ ≤ _; omega⟩ (fun m σ' H' hw => ?_)
    obtain ⟨kvs, ws, w5, w6, rfl, eH, d1, d2, hlaid, hm, hm0⟩ := hw
    refine ⟨!ws.isEmpty, et_test (ev_opL (ev_var rfl) (el_lst ea_nil (by simp)) fun p H3 hp e3 => rv_neNil (e3 D2 _ d2) hp), fun hb H3 e3 => ?_, fun hb H3 e3 => ?_⟩
    · have hwn : ws ≠ [] := fun z => by subst z; cases hb
      have hwl : 0 < ws.length := List.length_pos_iff.mpr hwn
      obtain ⟨m', rfl⟩ : ∃ m', m = m' + 1 := ⟨m - 1, by omega⟩
      refine ⟨ExpW c vp rp ks ns H (3 * ns.length + rs.length) D1 D2 m', fun σ2 H4 q => ⟨m', by omega, q⟩, ?_⟩
      have hlast : (ws.map V.int)[(ws.map V.int).length - 1]? = some (V.int (ws.getLast hwn)) := by
        rw [List.length_map, List.getElem?_map, ← List.getLast?_eq_getElem?, List.getLast?_eq_some_getLast hwn]; rfl
      generalize ws.getLast hwn = place at hlast
      show tSeq _ _ _ [some (V.ref c), some (.ref vp), some (.ref rp), some (.ref D1), some (.ref D2), w5, w6] H3
      refine q_pop (e3 D2 _ d2) (ev_var rfl) hlast fun H4 e4 => ?_
      have hdl : (ws.map V.int).dropLast = ws.dropLast.map V.int := List.map_dropLast.symm
      have d2' : (upd H4 D2 (.lst (ws.map V.int).dropLast)) D2 = some (.lst (ws.dropLast.map V.int)) := by rw [hdl]; exact upd_same
      have e34 := e3.trans e4
      have d1' : (upd H4 D2 (.lst (ws.map V.int).dropLast)) D1 = some (.dK kvs) := by rw [upd_ne hne]; exact e34 D1 _ d1
      have eH4 : Ex H (upd H4 D2 (.lst (ws.map V.int).dropLast)) := Ex.mut (eH.trans e34) hD2'
      have hlaid4 : LaidOk ks ns (upd H4 D2 (.lst (ws.map V.int).dropLast)) kvs := hlaid.ex fun p xs hp => by
        rw [upd_ne (ne_of hp d2 (by simp))]; exact e34 p _ hp
      generalize (upd H4 D2 (.lst (ws.map V.int).dropLast)) = G at d2' d1' eH4 hlaid4
      have hwd : ws.dropLast.length + 1 = ws.length := by rw [List.length_dropLast]; omega
      dsimp only
      show tIfS _ _ _ _ [some (V.ref c), some (.ref vp), some (.ref rp), some (.ref D1), some (.ref D2), some (.int place), w6] G
      refine s_when (b := !(valV kvs (.inl place)).isSome) (et_B (ev_dnin (k := .inl place) (ev_var rfl) (ev_var rfl) (.inl d1'))) (fun hb2 H5 e5 => ?_) (fun hb2 H5 e5 => ?_)
      · have hnone : (valV kvs (.inl place)).isSome = false := by simpa using hb2
        have E5 := eH4.trans e5
        refine q_asgG (call_R (ea_cons (ev_var rfl) (ea_cons (ev_var rfl) (ea_cons (ev_var rfl) ea_nil))) fun H6 e6 => ⟨c, vp, place, dx, o, t, stop, ks, tkvs, ns, rfl, C.ex (E5.trans e6), .inl (ex_l (E5.trans e6) hv), fun p H7 xs e7 h7 hi h0 hl => ?_, fun H7 e7 => ?_⟩)
        · have E7 := (E5.trans e6).trans e7
          have g1 := e7 D1 _ (e6 D1 _ (e5 D1 _ d1'))
          have g2 := e7 D2 _ (e6 D2 _ (e5 D2 _ d2'))
          have hl7 : LaidOk ks ns H7 kvs := hlaid4.ex fun p xs hp => e7 p _ (e6 p _ (e5 p _ hp))
          dsimp only
          show tSeq (sDPut _ _ _) _ _ [some (V.ref c), some (.ref vp), some (.ref rp), some (.ref D1), some (.ref D2), some (.int place), some (.ref p)] H7
          refine ⟨.ref p, rfl, .ref D1, rfl, .int place, rfl, D1, _, rfl, DPut.k (k := .inl place) g1 (by rw [sizeLine_eq]; omega), ?_⟩
          have u1 : (upd H7 D1 (.dK (putK kvs (.inl place) (.ref p)))) D1 = some (.dK (putK kvs (.inl place) (.ref p))) := upd_same
          have u2 : (upd H7 D1 (.dK (putK kvs (.inl place) (.ref p)))) D2 = some (.lst (ws.dropLast.map V.int)) := by rw [upd_ne (Ne.symm hne)]; exact g2
          have up : (upd H7 D1 (.dK (putK kvs (.inl place) (.ref p)))) p = some (.tup (xs.map V.int)) := by rw [upd_ne (ne_of h7 g1 (by simp))]; exact h7
          have E8 : Ex H (upd H7 D1 (.dK (putK kvs (.inl place) (.ref p)))) := Ex.mut E7 hD1
          have hl8 : LaidOk ks ns (upd H7 D1 (.dK (putK kvs (.inl place) (.ref p)))) (putK kvs (.inl place) (.ref p)) := fun q hq => by
            have hl8' := hl7.ex (H' := upd H7 D1 (.dK (putK kvs (.inl place) (.ref p)))) fun p xs hp => by rw [upd_ne (ne_of hp g1 (by simp))]; exact hp
            rcases mem_putKey hq with hq | rfl
            · exact hl8' q hq
            · exact ⟨place, rfl, .inr ⟨p, xs, rfl, up, hi, h0, hl⟩⟩
          have hul := unlaid_less (n := ns.length) (kvs := kvs) (k := place) (.ref p) h0 hl hnone
          have hpl := length_putK kvs (.inl place) (.ref p)
          generalize (upd H7 D1 (.dK (putK kvs (.inl place) (.ref p)))) = G8 at u1 u2 up E8 hl8
          generalize putK kvs (.inl place) (.ref p) = kvs' at u1 hl8 hul hpl
          dsimp only
          show tIfS _ _ _ _ [some (V.ref c), some (.ref vp), some (.ref rp), some (.ref D1), some (.ref D2), some (.int place), some (.ref p)] G8
          refine s_when (b := true) ?_ (fun _ H9 e9 => ?_) (fun z => by cases z)
          · exact et_notN (ev_var rfl) rfl
          · refine ⟨.ref D2, rfl, Or.inl ⟨rfl, _, sq_of (e9 D2 _ u2)⟩, ?_⟩
            dsimp only [tCons, tCB]
            have E9 := E8.trans e9
            refine call_mR (ev_var rfl) (C.ex E9).ob rfl (ea_cons (ev_var rfl) (ea_cons (ev_var rfl) ea_nil)) fun H10 e10 => ⟨c, p, place, dx, o, t, stop, ks, tkvs, xs, rfl, C.ex (E9.trans e10), st_of (e10 p _ (e9 p _ up)), hi, fun q H11 ys hq e11 h11 hyl => ?_⟩
            refine ⟨q, ys.map V.int, rfl, .inr (st_of h11), fun l hl => ?_⟩
            have v2 : H11 D2 = some (.lst (ws.dropLast.map V.int)) := e11 D2 _ (e10 D2 _ (e9 D2 _ u2))
            have hlD : D2 ≠ l := ne_of_none v2 hl
            have v1 : H11 D1 = some (.dK kvs') := e11 D1 _ (e10 D1 _ (e9 D1 _ u1))
            have hlD1 : D1 ≠ l := ne_of_none v1 hl
            refine ⟨D2, l, ws.dropLast.map V.int, ys.map V.int, rfl, rfl, by rw [upd_ne hlD]; exact v2, upd_same, by rw [List.length_map, List.length_map, sizeLine_eq]; omega, ?_⟩
            refine ⟨kvs', ws.dropLast ++ ys, _, _, rfl, ?_, ?_, by rw [List.map_append]; exact upd_same, ?_, ?_, ?_⟩
            · exact Ex.mut ((((E9.trans e10).trans e11)).trans (Ex.new hl)) hD2'
            · rw [upd_ne hne, upd_ne hlD1]; exact v1
            · refine hl8.ex fun p xs hp => ?_
              have hp11 := e11 p _ (e10 p _ (e9 p _ hp))
              rw [upd_ne (ne_of hp11 v2 (by simp)), upd_ne (ne_of_none hp11 hl)]
              exact hp11
            · rw [List.length_append]; omega
            · omega
        · have E7 := (E5.trans e6).trans e7
          have g1 := e7 D1 _ (e6 D1 _ (e5 D1 _ d1'))
          have g2 := e7 D2 _ (e6 D2 _ (e5 D2 _ d2'))
          have hl7 : LaidOk ks ns H7 kvs := hlaid4.ex fun p xs hp => e7 p _ (e6 p _ (e5 p _ hp))
          dsimp only
          show tSeq (sDPut _ _ _) _ _ [some (V.ref c), some (.ref vp), some (.ref rp), some (.ref D1), some (.ref D2), some (.int place), some .non] H7
          refine ⟨.non, rfl, .ref D1, rfl, .int place, rfl, D1, _, rfl, DPut.k (k := .inl place) g1 (by rw [sizeLine_eq]; omega), ?_⟩
          have hul := unlaid_put ns.length kvs place .non
          have hpl := length_putK kvs (.inl place) .non
          dsimp only
          show tIfS _ _ _ _ [some (V.ref c), some (.ref vp), some (.ref rp), some (.ref D1), some (.ref D2), some (.int place), some .non] (upd H7 D1 (.dK (putK kvs (.inl place) .non)))
          refine s_when (b := false) ?_ (fun z => by cases z) (fun _ H9 e9 => ?_)
          · exact et_notN (ev_var rfl) rfl
          · refine ⟨putK kvs (.inl place) .non, ws.dropLast, _, _, rfl, (Ex.mut E7 hD1).trans e9, e9 D1 _ upd_same, e9 D2 _ (by rw [upd_ne (Ne.symm hne)]; exact g2), fun q hq => ?_, by omega, by omega⟩
            rcases mem_putKey hq with hq | rfl
            · exact (hl7.ex (H' := H9) fun p xs hp => e9 p _ (by rw [upd_ne (ne_of hp g1 (by simp))]; exact hp)) q hq
            · exact ⟨place, rfl, .inl rfl⟩
      · exact ⟨kvs, ws.dropLast, _, _, rfl, eH4.trans e5, e5 D1 _ d1', e5 D2 _ d2', hlaid4.ex fun p xs hp => e5 p _ hp, by omega, by omega⟩
    · exact s_ret (ev_var rfl) fun H4 e4 => kQ D1 H4 kvs hD1 ((eH.trans e3).trans e4) (e4 D1 _ (e3 D1 _ d1)) (hlaid.ex fun p xs hp => e4 p _ (e3 p _ hp)) (by omega)
open PySem PySem.Spec PyProof.Rows L2 Evl Hb TL
structure ProgAt (K : PySem.W.Frag) (H : Hp) (x dx r D S L : Addr) (n : Nat) (kvs : List (Key × V)) (sps : List Int) : Prop where
  ob : H x = some (.ins (C_Program K) dx [("roots", .ref r), ("laid", .ref D), ("spots", .ref S), ("leads", .ref L)])
  la : H D = some (.dK kvs)
  sp : H S = some (.lst (sps.map V.int))
  wh : ∀ k v, valV kvs (.inl k) = some v → 0 ≤ k ∧ k < n
  sm : sps.length ≤ 600000
theorem ProgAt.ex {K : PySem.W.Frag} {H H' : Hp} {x dx r D S L : Addr} {n : Nat} {kvs : List (Key × V)} {sps : List Int} (h : ProgAt K H x dx r D S L n kvs sps) (e : Ex H H') : ProgAt K H' x dx r D S L n kvs sps := ⟨e x _ h.ob, e D _ h.la, e S _ h.sp, h.wh, h.sm⟩
def sp_contains (K : PySem.W.Frag) : Sp := fun vs H Q _ => ∃ (x : Addr) (i : Int) (dx r D S L : Addr) (n : Nat) (kvs : List (Key × V)) (sps : List Int), vs = [.ref x, .int i] ∧ ProgAt K H x dx r D S L n kvs sps ∧ RetV (.bl (valV kvs (.inl i)).isSome) H Q
theorem ok_Program___contains__ {P : Program} {w : World} {K : PySem.W.Frag} {mg : Str → Option Value} {base : Heap} (T : Txt P K mg) : FnR P w K mg base (CX0) 1 (f_Program___contains__ K) (sp_contains K) := by
  obtain ⟨fd, F⟩ := T.F_Program___contains__
  refine Rr.fnR_ok (F.ok sc_Program___contains__ (fun vs H Q E h => ?_) (fun cdv A outer s H vs Q E hr h => ?_)) (F.bindsN fun _ _ _ _ _ _ us hl => match us, hl with | [_, _], _ => rfl)
  · obtain ⟨x, i, dx, r, D, S, L, n, kvs, sps, rfl, _⟩ := h
    rfl
  · obtain ⟨x, i, dx, r, D, S, L, n, kvs, sps, rfl, h⟩ := h
    have hu := hu_of hr
    refine ⟨_, PSs.nox (pss_one (ps_ret (pe_and (pe_callB call_isi rfl T.b_isinstance (by decide +kernel) (pa_cons (pv 1) (pa_cons (pe_bltn (v := .ty "int") (u := .type "int") rfl T.b_int (by decide +kernel) rfl) pa_nil))) (pe_and (pe_not (pe_callB call_isi rfl T.b_isinstance (by decide +kernel) (pa_cons (pv 1) (pa_cons (pe_bltn (v := .ty "bool") (u := .type "bool") rfl T.b_bool (by decide +kernel) rfl) pa_nil)))) (pe_one (pe_cmp (pc_din (by exact hu) (pv 1) (pe_fld (pv 0) rfl)))))))), ?_⟩
    obtain ⟨P, k⟩ := h
    refine s_ret (v := .bl (valV kvs (.inl i)).isSome) (ev_is (v := .bl (true && (!false && (valV kvs (.inl i)).isSome))) (ev_andV ?_ fun _ => ev_andV ?_ fun _ => ?_) (by simp)) k
    · walk_at "ev"
    · walk_at "ev"
    · exact ev_din (k := .inl i) (ev_var rfl) (ev_fld (ev_var rfl) P.ob T.cl_Program T.n_Program_laid rfl) (.inl P.la)
theorem it_Program {P : Program} {w : World} {K : PySem.W.Frag} {mg : Str → Option Value} {base : Heap} (T : Txt P K mg) : Rr.FnI P w K mg base 2 (f_Program___iter__ K) (C_Program K) "spots" := by
  obtain ⟨fd, F⟩ := T.F_Program___iter__
  refine Rr.fnI_ok (N := N_Program___iter__) (sf := "self") F sc_Program___iter__ T.cl_Program T.n_Program_spots (fun _ _ _ _ _ _ _ => rfl) fun n cdv A outer s H E hn => pss_one (ps_ret (pe_callB (Rr.call_iterN hn) rfl T.b_iter (by decide +kernel) (pa_cons (pe_fld (pv 0) rfl) pa_nil)))
def sp_Program (K : PySem.W.Frag) : Sp := fun vs H Q E => ∃ (x c vp rp : Addr) (dx cdx o t : Addr) (stop : Int) (ks : List Int) (tkvs : List (Key × V)) (ns rs : List Int), vs = [.ref x, .ref c, .ref vp, .ref rp] ∧ H x = some (.ins (C_Program K) dx []) ∧ CodesAt K H c cdx o t stop ks tkvs ∧ SqT K H vp (ns.map V.int) ∧
  H rp = some (.tup (rs.map V.int)) ∧ ns.length ≤ 95000 ∧ rs.length < 64 ∧ (∀ H2 r D S L kvs sps, ExS (oneA x) H H2 → ProgAt K H2 x dx r D S L ns.length kvs sps → Q .non H2) ∧ ∀ place d H', ExS (oneA x) H H' → H' d = some (.xd [("place", .int place)]) → E (.ref (C_NotWhole K)) (some d) H'
theorem sqt_S {K : PySem.W.Frag} {H H' : Hp} {x C dx : Addr} {fs : List (Str × V)} {p : Addr} {xs : List V} (h : SqT K H p xs) (hx : H x = some (.ins C dx fs)) (e : ExS (oneA x) H H') : SqT K H' p xs := by
  rcases h with h | h
  · rcases h with h | ⟨o, h⟩
    · exact .inl (.inl (e p _ (ne_of h hx (by simp)) h))
    · exact .inl (.inr ⟨o, e p _ (ne_of h hx (by simp)) h⟩)
  · exact .inr h
theorem CodesAt.S {K : PySem.W.Frag} {H H' : Hp} {x C dx2 : Addr} {fs : List (Str × V)} {c dx o t : Addr} {stop : Int} {ks : List Int} {tkvs : List (Key × V)} (h : CodesAt K H c dx o t stop ks tkvs) (hx : H x = some (.ins C dx2 fs)) (hf : fs.length ≠ 3) (e : ExS (oneA x) H H') : CodesAt K H' c dx o t stop ks tkvs where
  ob := e c _ (fun z : c = x => by
    have h1 := h.ob
    rw [z, hx] at h1
    injection h1 with h1
    injection h1 with _ _ h1
    rw [h1] at hf
    exact hf rfl) h.ob
  or := e o _ (ne_of h.or hx (by simp)) h.or
  tb := e t _ (ne_of h.tb hx (by simp)) h.tb
  fm := fun k hk => by
    obtain ⟨a, fo, h1, h2, h3⟩ := h.fm k hk
    refine ⟨a, fo, h1, e a _ (fun z : a = x => ?_) h2, h3⟩
    obtain ⟨_, _, _, _, e3, _⟩ := h3
    rw [z, hx, e3] at h2
    injection h2 with h2
    injection h2 with _ _ h2
    rw [h2] at hf
    exact hf rfl
theorem ok_Program___init__ {P : Program} {w : World} {K : PySem.W.Frag} {mg : Str → Option Value} {base : Heap} (T : Txt P K mg) : FnR P w K mg base (L2N.CX P w) 6 (f_Program___init__ K) (Hb.starSp 3 (sp_Program K)) := by
  obtain ⟨fd, F⟩ := T.F_Program___init__
  have F_explore := ok_explore (w := w) (base := base) T
  have F_CodeSet_followers := ok_CodeSet_followers (w := w) (base := base) T
  refine Rr.fnS (ps := ["self", "codes", "values"]) (pv := "roots") (sp := sp_Program K) F sc_Program___init__ Rt.cxUpN (fun kV doc pm an cdv ct => StX.bind_star3 (B := fun l => bindArgs (PySem.W.fnOf "__init__" "Program.__init__" (defArgs s_Program___init__) (defBody s_Program___init__) (defScope s_Program___init__) .none kV doc pm an cdv ct) ⟨l, []⟩) (fun a b c => rfl) (fun a b c r rs => rfl)) (fun cdv A outer s H vs Q E hr h => ?_)
  · obtain ⟨x, c, vp, rp, dx, cdx, o, t, stop, ks, tkvs, ns, rs, rfl, h⟩ := h
    have hu := hu_of hr
    have hr_explore : Room 5 _ := hr.mono (by decide)
    have hr_CodeSet_followers : Room 1 _ := hr.mono (by decide)
    refine ⟨_, (pss_cons (ps_fld (pv 0) (pe_callTy call_tuple_of rfl T.b_tuple (by decide +kernel) (pa_cons (pe_callB (cr_sortedSet rfl) rfl T.b_sorted (by decide +kernel) (pa_cons (pe_callTy (Ru.cr_setI rfl) rfl T.b_set (by decide +kernel) (pa_cons (pv 3) pa_nil)) pa_nil)) pa_nil)) rfl)
      (pss_cons (ps_fld (pv 0) (Rr.pe_cR F_explore hr_explore T.k_explore T.g_explore Rr.pass0 (pa_cons (pv 1) (pa_cons (pe_callTy call_list_of rfl T.b_list (by decide +kernel) (pa_cons (pv 2) pa_nil)) (pa_cons (pe_fld (pv 0) rfl) pa_nil)))) rfl)
      (pss_cons (ps_fld (pv 0) (pe_callB cr_sortedI rfl T.b_sorted (by decide +kernel) (pa_cons (pe_callTy (call_listD rfl) rfl T.b_list (by decide +kernel) (pa_cons (pe_fld (pv 0) rfl) pa_nil)) pa_nil)) rfl)
      (pss_cons (ps_for (passes_of rfl) rfl (pi_list (pe_fld (pv 0) rfl)) (pg_name (i := 4) sc_Program___init__.nd rfl (Or.inl rfl)) (pss_one (ps_if (pt_cmpR op_isN (pe_dget (by exact hu) (pe_fld (pv 0) rfl) (pv 4) (fun _ _ => rfl)) pe_non (nomark _)) (pss_one (Rt.ps_raiseSupN rfl T.x_NotWhole hr (L2N.takes_of rfl rfl rfl rfl) (pa_cons (pv 4) pa_nil))) pss_nil)))
      (pss_one (ps_fld (pv 0) (pe_dc (own := [("place", 4)]) (g := gName 4) rfl sc_Program___init__.nd (pi_list (pe_fld (pv 0) rfl)) (blkOk_by (N := N_Program___init__) (sc := defScope s_Program___init__) (by decide +kernel)) (fun _ _ _ _ _ => (pg_name (i := 4) sc_Program___init__.nd rfl (Or.inl rfl))) (fun _ _ _ _ _ => pts_nil) (fun _ _ _ _ _ => (pv 4)) (fun _ _ _ _ _ => (Rr.pe_mR (pv 1) T.cl_CodeSet T.m_CodeSet_followers F_CodeSet_followers hr_CodeSet_followers Rr.pass0 (pa_cons (pe_dget (by exact hu) (Rw.pe_fldK (K := K) rfl (pv 0) rfl) (pv 4) (fun _ _ => rfl)) (pa_cons (pv 4) pa_nil))))) rfl)))))), ?_⟩
    obtain ⟨hx, C, hv, hr0, hn, hrl, kQ, kE⟩ := h
    show tSeq (sFld _ _ _ _) _ _ [some (V.ref x), some (.ref c), some (.ref vp), some (.ref rp), none] H
    refine q_seq (fld_any ?_)
    refine tss_any (ev_var rfl) (.inr (st_of hr0)) hrl fun r H1 rs' hr1 e1 h1 hmem hlen => ?_
    refine fld_end (ev_var rfl) (e1 x _ hx) T.cl_Program T.n_Program_roots (by simp) fun H2 e2 => ?_
    have x2 : (upd H2 x (.ins (C_Program K) dx [("roots", .ref r)])) x = some (.ins (C_Program K) dx [("roots", .ref r)]) := upd_same
    have S2 : ExS (oneA x) H (upd H2 x (.ins (C_Program K) dx [("roots", .ref r)])) := ExS.mut (S := oneA x) (Ex.toS (e1.trans e2)) (.inl rfl)
    have r2 : (upd H2 x (.ins (C_Program K) dx [("roots", .ref r)])) r = some (.tup (rs'.map V.int)) := by
      rw [upd_ne (ne_of (e2 r _ h1) (e2 x _ (e1 x _ hx)) (by simp))]; exact e2 r _ h1
    dsimp only
    show tSeq (sFld _ _ _ _) _ _ [some (V.ref x), some (.ref c), some (.ref vp), some (.ref rp), none] (upd H2 x (.ins (C_Program K) dx [("roots", .ref r)]))
    generalize (upd H2 x (.ins (C_Program K) dx [("roots", .ref r)])) = G2 at x2 S2 r2
    have C2 := C.S hx (by simp) S2
    have v2 := sqt_S hv hx S2
    refine q_seq (fld_any ?_)
    refine call_VLV (ev_var rfl) (el_listLT (ev_var rfl) (.inr v2)) (ev_fld (ev_var rfl) x2 T.cl_Program T.n_Program_roots rfl) fun H3 lp e3 h3 => ⟨c, lp, r, cdx, o, t, stop, ks, tkvs, ns, rs', rfl, C2.ex e3, sq_of h3, st_of (e3 r _ r2), hn, by omega, fun D H4 kvs hD e4 h4 hlaid hkl => ?_⟩
    refine fld_end (ev_var rfl) (e4 x _ (e3 x _ x2)) T.cl_Program T.n_Program_laid (by simp) fun H5 e5 => ?_
    have e25 := (e3.trans e4).trans e5
    have x5 : (upd H5 x (.ins (C_Program K) dx [("roots", .ref r), ("laid", .ref D)])) x = some (.ins (C_Program K) dx [("roots", .ref r), ("laid", .ref D)]) := upd_same
    have S5 : ExS (oneA x) H (upd H5 x (.ins (C_Program K) dx [("roots", .ref r), ("laid", .ref D)])) := ExS.mut (S := oneA x) (S2.ex e25) (.inl rfl)
    have d5 : (upd H5 x (.ins (C_Program K) dx [("roots", .ref r), ("laid", .ref D)])) D = some (.dK kvs) := by
      rw [upd_ne (ne_of (e5 D _ h4) (e25 x _ x2) (by simp))]; exact e5 D _ h4
    have l5 : LaidOk ks ns (upd H5 x (.ins (C_Program K) dx [("roots", .ref r), ("laid", .ref D)])) kvs := hlaid.ex fun p xs hp => by
      rw [upd_ne (ne_of (e5 p _ hp) (e25 x _ x2) (by simp))]; exact e5 p _ hp
    dsimp only
    show tSeq (sFld _ _ _ _) _ _ [some (V.ref x), some (.ref c), some (.ref vp), some (.ref rp), none] (upd H5 x (.ins (C_Program K) dx [("roots", .ref r), ("laid", .ref D)]))
    generalize (upd H5 x (.ins (C_Program K) dx [("roots", .ref r), ("laid", .ref D)])) = G5 at x5 S5 d5 l5
    have ik : IntKeys kvs := fun q hq => by
      obtain ⟨i, h, _⟩ := hlaid q hq
      exact ⟨i, h⟩
    refine q_seq (fld_any ?_)
    refine sorted_any (ns := kvs.map fun q => keyI q.1) (by rw [← keys_ints ik]; exact el_listD (ev_fld (ev_var rfl) x5 T.cl_Program T.n_Program_laid rfl) (.inl d5)) fun sps S H6 hperm hS e6 h6 => ?_
    refine fld_end (ev_var rfl) (e6 x _ x5) T.cl_Program T.n_Program_spots (by simp) fun H7 e7 => ?_
    have e57 := e6.trans e7
    have x7 : (upd H7 x (.ins (C_Program K) dx [("roots", .ref r), ("laid", .ref D), ("spots", .ref S)])) x = some (.ins (C_Program K) dx [("roots", .ref r), ("laid", .ref D), ("spots", .ref S)]) := upd_same
    have S7 : ExS (oneA x) H (upd H7 x (.ins (C_Program K) dx [("roots", .ref r), ("laid", .ref D), ("spots", .ref S)])) := ExS.mut (S := oneA x) (S5.ex e57) (.inl rfl)
    have d7 : (upd H7 x (.ins (C_Program K) dx [("roots", .ref r), ("laid", .ref D), ("spots", .ref S)])) D = some (.dK kvs) := by
      rw [upd_ne (ne_of d5 x5 (by simp))]; exact e57 D _ d5
    have s7 : (upd H7 x (.ins (C_Program K) dx [("roots", .ref r), ("laid", .ref D), ("spots", .ref S)])) S = some (.lst (sps.map V.int)) := by
      rw [upd_ne (ne_of (e7 S _ h6) (e57 x _ x5) (by simp))]; exact e7 S _ h6
    have l7 : LaidOk ks ns (upd H7 x (.ins (C_Program K) dx [("roots", .ref r), ("laid", .ref D), ("spots", .ref S)])) kvs := l5.ex fun p xs hp => by
      rw [upd_ne (ne_of hp x5 (by simp))]; exact e57 p _ hp
    have C7 := C.S hx (by simp) S7
    dsimp only
    show tSeq (tFor _ _ _) _ _ [some (V.ref x), some (.ref c), some (.ref vp), some (.ref rp), none] (upd H7 x (.ins (C_Program K) dx [("roots", .ref r), ("laid", .ref D), ("spots", .ref S)]))
    generalize (upd H7 x (.ins (C_Program K) dx [("roots", .ref r), ("laid", .ref D), ("spots", .ref S)])) = G7 at x7 S7 d7 s7 l7 C7
    have hspl : sps.length = kvs.length := by rw [hperm.length_eq, List.length_map]
    have hin : ∀ k ∈ sps, ∃ q ∈ kvs, q.1 = .inl k := fun k hk => by
      obtain ⟨q, hq, e⟩ := List.mem_map.mp (hperm.mem_iff.mp hk)
      obtain ⟨i, hi⟩ := ik q hq
      refine ⟨q, hq, ?_⟩
      rw [hi] at e ⊢
      rw [← e]; rfl
    have hval : ∀ k ∈ sps, ∃ v, valV kvs (.inl k) = some v ∧ (v = .non ∨ ∃ p xs, v = .ref p ∧ G7 p = some (.tup (xs.map V.int)) ∧ InstrOk ks xs ∧ 0 ≤ k ∧ k < ns.length) := fun k hk => by
      obtain ⟨q, hq, e⟩ := hin k hk
      obtain ⟨v, hv⟩ := valV_of_mem hq
      obtain ⟨i, h1, h2⟩ := l7 _ (valV_mem hv)
      rw [e] at hv
      have : i = k := by
        have h1 : q.1 = .inl i := h1
        rw [e] at h1
        injection h1 with h1
        exact h1.symm
      subst this
      exact ⟨v, hv, h2⟩
    -- every place is looked at
    refine q_forI (ei_l (ev_fld (ev_var rfl) x7 T.cl_Program T.n_Program_spots rfl) (sq_of s7)) (fun H8 i σ' H9 => Ex H8 H9 ∧ (∃ wv, σ' = [some (V.ref x), some (.ref c), some (.ref vp), some (.ref rp), wv]) ∧ ∀ (j : Nat) k, j < i → sps[j]? = some k → valV kvs (.inl k) ≠ some .non) (fun _ _ _ _ h => h.1) (fun H8 e8 => ⟨Ex.refl _, ⟨_, rfl⟩, fun j k h => by omega⟩) (fun H8 i y σ' H9 e8 hy hP => ?_) (fun H8 σ' H9 e8 hP => ?_)
    · obtain ⟨e9, ⟨wv, rfl⟩, hall⟩ := hP
      rw [List.getElem?_map] at hy
      obtain ⟨k, hk, rfl⟩ := Option.map_eq_some_iff.mp hy
      obtain ⟨v, hv1, hv2⟩ := hval k (List.mem_of_getElem? hk)
      have e79 := e8.trans e9
      dsimp only [gName]
      show tIfS _ _ _ _ [some (V.ref x), some (.ref c), some (.ref vp), some (.ref rp), some (.int k)] H9
      refine s_when (et_isN (ev_dget (k := .inl k) (ev_fld (ev_var rfl) (e79 x _ x7) T.cl_Program T.n_Program_laid rfl) (ev_var rfl) (.inl (e79 D _ d7)) hv1) rfl) (fun hb H10 e10 => ?_) (fun hb H10 e10 => ⟨e9.trans e10, ⟨_, rfl⟩, fun j k' hj hk' => ?_⟩)
      · show SupX.tMkSup _ _ _ _ _ _
        refine s_raise (vs := [.int k]) (ea_cons (ev_var rfl) ea_nil) rfl fun H' d e' _ h' => ?_
        exact kE k d H' (S7.ex ((e79.trans e10).trans e')) h'
      · by_cases hji : j < i
        · exact hall j k' hji hk'
        · have : j = i := by omega
          subst this
          rw [hk] at hk'
          cases hk'
          rw [hv1]
          intro z
          cases z
          simp at hb
    · obtain ⟨e9, ⟨wv, rfl⟩, hall⟩ := hP
      rw [List.length_map] at hall
      have e79 := e8.trans e9
      have hnn : ∀ k ∈ sps, valV kvs (.inl k) ≠ some .non := fun k hk => by
        obtain ⟨j, hj⟩ := List.getElem?_of_mem hk
        exact hall j k (List.getElem?_eq_some_iff.mp hj).1 hj
      have hks : ∀ k v, valV kvs (.inl k) = some v → k ∈ sps := fun k v hv => by
        refine hperm.mem_iff.mpr (List.mem_map.mpr ⟨_, valV_mem hv, rfl⟩)
      show sFld _ _ _ _ _ [some (V.ref x), some (.ref c), some (.ref vp), some (.ref rp), wv] H9
      refine fld_any ?_
      refine el_dcU (α := Int) (ys := sps) (ex := V.int) (fun k => .inl k) (ei_l (ev_fld (ev_var rfl) (e79 x _ x7) T.cl_Program T.n_Program_spots rfl) (sq_of (e79 S _ s7))) (by rw [sizeLine_eq]; omega) (fun x => rfl) (fun k hk => ev_var rfl) (fun k hk H10 e10 Q' q' => ?_) H9 (Ex.refl H9) _ fun L H10 lk hL e10 h10 => ?_
      · obtain ⟨v, hv1, hv2⟩ := hval k hk
        rcases hv2 with hv2 | ⟨p, xs, rfl, hp, hi, _, _⟩
        · exact absurd (by rw [hv1, hv2]) (hnn k hk)
        · have e710 := e79.trans e10
          refine call_mR (ev_var rfl) (C7.ex e710).ob rfl (ea_cons (ev_dget (k := .inl k) (ev_fld (ev_var rfl) (e710 x _ x7) T.cl_Program T.n_Program_laid rfl) (ev_var rfl) (.inl (e710 D _ d7)) hv1) (ea_cons (ev_var rfl) ea_nil)) fun H11 e11 => ⟨c, p, k, cdx, o, t, stop, ks, tkvs, xs, rfl, C7.ex (e710.trans e11), st_of ((e710.trans e11) p _ hp), hi, fun q H12 ys _ e12 _ _ => q' _ H12 (e11.trans e12)⟩
      · have e710 := e79.trans e10
        refine fld_end (ev_var rfl) (e710 x _ x7) T.cl_Program T.n_Program_leads (by simp) fun H11 e11 => ?_
        have e711 := e710.trans e11
        refine kQ _ r D S L kvs sps (ExS.mut (S := oneA x) (S7.ex e711) (.inl rfl)) ⟨upd_same, ?_, ?_, fun k v hv => ?_, by omega⟩
        · rw [upd_ne (ne_of d7 x7 (by simp))]; exact e711 D _ d7
        · rw [upd_ne (ne_of s7 x7 (by simp))]; exact e711 S _ s7
        · have hk := hks k v hv
          obtain ⟨v', hv1, hv2⟩ := hval k hk
          rcases hv2 with hv2 | ⟨p, xs, _, _, _, h0, h1⟩
          · exact absurd (by rw [hv1, hv2]) (hnn k hk)
          · exact ⟨h0, h1⟩
open PySem PySem.Spec PyProof.Rows L2 Evl Hb TL
def sp_whole (K : PySem.W.Frag) : Sp := fun vs H Q E => ∃ (c vp rp : Addr) (cdx o t : Addr) (stop : Int) (ks : List Int) (tkvs : List (Key × V)) (ns rs : List Int), vs = [.ref c, .ref vp, .ref rp] ∧ CodesAt K H c cdx o t stop ks tkvs ∧ SqT K H vp (ns.map V.int) ∧ SqT K H rp (rs.map V.int) ∧ ns.length ≤ 95000 ∧ rs.length < 64 ∧
  WeakE K noS H E ∧ ∀ H2 x dx r D S L kvs sps, H x = none → Ex H H2 → ProgAt K H2 x dx r D S L ns.length kvs sps → Q (.ref x) H2
theorem ok_old_program_of {P : Program} {w : World} {K : PySem.W.Frag} {mg : Str → Option Value} {base : Heap} (T : Txt P K mg) : FnR P w K mg base (L2.CX P w) 8 (f_old_program_of K) (sp_whole K) := by
  obtain ⟨fd, F⟩ := T.F_old_program_of
  have F_Program := ok_Program___init__ (w := w) (base := base) T
  refine Rr.fnR_ok (F.ok sc_old_program_of (fun vs H Q E h => ?_) (fun cdv A outer s H vs Q E hr h => ?_)) (F.bindsN fun _ _ _ _ _ _ us hl => match us, hl with | [_, _, _], _ => rfl)
  · obtain ⟨c, vp, rp, cdx, o, t, stop, ks, tkvs, ns, rs, rfl, _⟩ := h
    rfl
  · obtain ⟨c, vp, rp, cdx, o, t, stop, ks, tkvs, ns, rs, rfl, h⟩ := h
    have hr_Program : Room 7 _ := hr.mono (by decide)
    refine ⟨_, (pss_one (Rt.ps_try_asX (i := 3) rfl rfl rfl sc_old_program_of.nd rfl rfl ⟨rfl, by decide, .inl T.x_NotWhole.gC⟩ (fun hd => L2H.passesAt_of rfl hd) (takes_of rfl rfl rfl rfl) (fun W pn xe tk hp => pss_one (ps_ret (Rr.pe_kRS T.mk_Program F_Program hr_Program T.g_Program (Rt.passWN tk) (pa_cons (pv 0) (pa_cons (pv 1) (Rw.pa_starK (K := K) rfl (pv 2) pa_nil)))))) (fun a oe cls d pn xe hz hf tk hot => pss_one (Rt.ps_raiseHF (i := 3) (K := K) rfl rfl rfl rfl rfl (hf.elim fun v e => ⟨v, e, hz.2.2 v e⟩) hz.1 tk (Rt.pmk5_sup T.x_OldNotWhole (Rt.dp_mark hr) (pa_cons (Rt.pe_xfS T.xf_NotWhole T.nx_NotWhole_place hz.zc hf (pv 3)) pa_nil)))))), ?_⟩
    obtain ⟨C, hv, hrs, hn, hrl, kE, kQ⟩ := h
    show Rr.tKR _ _ _ _ _ _ _
    refine call_kR (ea_cons (ev_var rfl) (ea_cons (ev_var rfl) (ea_star (ev_var rfl) (.inl hrs) ea_nil))) fun H1 x dx e1 hx hdx hne => ?_
    rw [List.append_nil]
    have eN : Ex H (upd (upd H1 dx (.own x)) x (.ins (C_Program K) dx [])) := e1.trans ((Ex.new hdx).trans (Ex.new (by rw [upd_ne (Ne.symm hne)]; exact hx)))
    have hxi : (upd (upd H1 dx (.own x)) x (.ins (C_Program K) dx [])) x = some (.ins (C_Program K) dx []) := upd_same
    have hx0 : H x = none := fresh_back e1 hx
    generalize (upd (upd H1 dx (.own x)) x (.ins (C_Program K) dx [])) = G at eN hxi
    refine ⟨[.ref x, .ref c, .ref vp], rs.map V.int, rfl, rfl, by rw [List.length_map, sizeLine_eq]; omega, fun p hp => ?_⟩
    have eP : Ex H (upd G p (.tup (rs.map V.int))) := eN.trans (Ex.new hp)
    refine ⟨x, c, vp, p, dx, cdx, o, t, stop, ks, tkvs, ns, rs, rfl, by rw [upd_ne (ne_of_none hxi hp)]; exact hxi, C.ex eP, ex_t eP hv, upd_same, hn, hrl, fun H2 r D S L kvs sps e2 Pg => ⟨rfl, kQ H2 x dx r D S L kvs sps hx0 ((Ex.toS (S := oneA x) eP).trans e2 |>.toEx fun a (h : a = x) => by rw [h]; exact hx0) Pg⟩, fun place d H' e' h' => ?_⟩
    refine ⟨true, T.ex_NotWhole, fun _ a ha => ?_, fun z => by cases z⟩
    have eH : Ex H H' := ((Ex.toS (S := oneA x) eP).trans e').toEx fun a (h : a = x) => by rw [h]; exact hx0
    refine ⟨.ref a, rfl, rfl, rfl, d, _, .int place, rfl, h', rfl, rfl, fun d2 hd2 => ⟨rfl, T.xf_NotWhole.exC, ?_⟩⟩
    exact kE _ (by simp [Others]) _ _ _ (Ex.toS (eH.trans (Ex.new hd2))) upd_same
theorem ok_new_program_of {P : Program} {w : World} {K : PySem.W.Frag} {mg : Str → Option Value} {base : Heap} (T : Txt P K mg) : FnR P w K mg base (L2.CX P w) 8 (f_new_program_of K) (sp_whole K) := by
  obtain ⟨fd, F⟩ := T.F_new_program_of
  have F_Program := ok_Program___init__ (w := w) (base := base) T
  refine Rr.fnR_ok (F.ok sc_new_program_of (fun vs H Q E h => ?_) (fun cdv A outer s H vs Q E hr h => ?_)) (F.bindsN fun _ _ _ _ _ _ us hl => match us, hl with | [_, _, _], _ => rfl)
  · obtain ⟨c, vp, rp, cdx, o, t, stop, ks, tkvs, ns, rs, rfl, _⟩ := h
    rfl
  · obtain ⟨c, vp, rp, cdx, o, t, stop, ks, tkvs, ns, rs, rfl, h⟩ := h
    have hr_Program : Room 7 _ := hr.mono (by decide)
    refine ⟨_, (pss_one (Rt.ps_try_asX (i := 3) rfl rfl rfl sc_new_program_of.nd rfl rfl ⟨rfl, by decide, .inl T.x_NotWhole.gC⟩ (fun hd => L2H.passesAt_of rfl hd) (takes_of rfl rfl rfl rfl) (fun W pn xe tk hp => pss_one (ps_ret (Rr.pe_kRS T.mk_Program F_Program hr_Program T.g_Program (Rt.passWN tk) (pa_cons (pv 0) (pa_cons (pv 1) (Rw.pa_starK (K := K) rfl (pv 2) pa_nil)))))) (fun a oe cls d pn xe hz hf tk hot => pss_one (Rt.ps_raiseHF (i := 3) (K := K) rfl rfl rfl rfl rfl (hf.elim fun v e => ⟨v, e, hz.2.2 v e⟩) hz.1 tk (Rt.pmk5_sup T.x_NewNotWhole (Rt.dp_mark hr) (pa_cons (Rt.pe_xfS T.xf_NotWhole T.nx_NotWhole_place hz.zc hf (pv 3)) pa_nil)))))), ?_⟩
    obtain ⟨C, hv, hrs, hn, hrl, kE, kQ⟩ := h
    show Rr.tKR _ _ _ _ _ _ _
    refine call_kR (ea_cons (ev_var rfl) (ea_cons (ev_var rfl) (ea_star (ev_var rfl) (.inl hrs) ea_nil))) fun H1 x dx e1 hx hdx hne => ?_
    rw [List.append_nil]
    have eN : Ex H (upd (upd H1 dx (.own x)) x (.ins (C_Program K) dx [])) := e1.trans ((Ex.new hdx).trans (Ex.new (by rw [upd_ne (Ne.symm hne)]; exact hx)))
    have hxi : (upd (upd H1 dx (.own x)) x (.ins (C_Program K) dx [])) x = some (.ins (C_Program K) dx []) := upd_same
    have hx0 : H x = none := fresh_back e1 hx
    generalize (upd (upd H1 dx (.own x)) x (.ins (C_Program K) dx [])) = G at eN hxi
    refine ⟨[.ref x, .ref c, .ref vp], rs.map V.int, rfl, rfl, by rw [List.length_map, sizeLine_eq]; omega, fun p hp => ?_⟩
    have eP : Ex H (upd G p (.tup (rs.map V.int))) := eN.trans (Ex.new hp)
    refine ⟨x, c, vp, p, dx, cdx, o, t, stop, ks, tkvs, ns, rs, rfl, by rw [upd_ne (ne_of_none hxi hp)]; exact hxi, C.ex eP, ex_t eP hv, upd_same, hn, hrl, fun H2 r D S L kvs sps e2 Pg => ⟨rfl, kQ H2 x dx r D S L kvs sps hx0 ((Ex.toS (S := oneA x) eP).trans e2 |>.toEx fun a (h : a = x) => by rw [h]; exact hx0) Pg⟩, fun place d H' e' h' => ?_⟩
    refine ⟨true, T.ex_NotWhole, fun _ a ha => ?_, fun z => by cases z⟩
    have eH : Ex H H' := ((Ex.toS (S := oneA x) eP).trans e').toEx fun a (h : a = x) => by rw [h]; exact hx0
    refine ⟨.ref a, rfl, rfl, rfl, d, _, .int place, rfl, h', rfl, rfl, fun d2 hd2 => ⟨rfl, T.xf_NotWhole.exC, ?_⟩⟩
    exact kE _ (by simp [Others]) _ _ _ (Ex.toS (eH.trans (Ex.new hd2))) upd_same
open PySem PySem.Spec PyProof.Rows L2 Evl Hb TL
def LayAt (K : PySem.W.Frag) (H : Hp) (a dx : Addr) (u c : Int) : Prop := H a = some (.ins (C_Layout K) dx [("held_unit", .int u), ("held_chunk", .int c)])
def sp_Layout (K : PySem.W.Frag) : Sp := fun vs H Q E => ∃ (x : Addr) (u c : Int) (dx : Addr), vs = [.ref x, .int u, .int c] ∧ H x = some (.ins (C_Layout K) dx []) ∧ WeakE K (oneA x) H E ∧ ∀ H2, ExS (oneA x) H H2 → LayAt K H2 x dx u c → Q .non H2
theorem ok_Layout___init__ {P : Program} {w : World} {K : PySem.W.Frag} {mg : Str → Option Value} {base : Heap} (T : Txt P K mg) : FnR P w K mg base (L2.CX P w) 3 (f_Layout___init__ K) (sp_Layout K) := by
  obtain ⟨fd, F⟩ := T.F_Layout___init__
  obtain ⟨ds, hds, kb⟩ := F.binds1 (ps := ["self", "unit", "chunk"]) 3 2 (by simp) rfl (fun T kV doc pm an cdv ct us its h1 h2 => match us, its, h1, h2 with | [_, _, _], [_, _], _, _ => ⟨_, rfl, rfl⟩)
  cases hds
  refine Rr.fnR_ok (F.ok sc_Layout___init__ (fun vs H Q E h => ?_) (fun cdv A outer s H vs Q E hr h => ?_)) kb
  · obtain ⟨x, u, c, dx, rfl, _⟩ := h
    rfl
  · obtain ⟨x, u, c, dx, rfl, h⟩ := h
    refine ⟨_, (pss_cons (ps_if (pt_cmpR op_notIn_seq (pv 1) (ClX.pe_cval (pe_glob (v := .ref (C_Layout K)) rfl T.g_Layout rfl)) (by rfl)) (pss_one (SupX.ps_raiseSup rfl T.x_BadLayout hr (takes_of rfl rfl rfl rfl) (pa_cons pe_str pa_nil))) pss_nil)
      (pss_cons (ps_if (PW.pt (pw_or (pt_cmpR op_notIn_seq (pv 2) (ClX.pe_cval (pe_glob (v := .ref (C_Layout K)) rfl T.g_Layout rfl)) (by rfl)) (pw_or1 (pt_cmpR op_lt (pv 2) (pv 1) (nomark _))))) (pss_one (SupX.ps_raiseSup rfl T.x_BadLayout hr (takes_of rfl rfl rfl rfl) (pa_cons pe_str pa_nil))) pss_nil)
      (pss_cons (ps_fld (pv 0) (pv 1) rfl)
      (pss_one (ps_fld (pv 0) (pv 2) rfl))))), ?_⟩
    obtain ⟨hx, kE, kQ⟩ := h
    obtain ⟨mu, tu, u1, u2, u3⟩ := T.cv_Layout_UNITS
    obtain ⟨mc, tc, c1, c2, c3⟩ := T.cv_Layout_CHUNKS
    show tSeq _ _ _ [some (V.ref x), some (.int u), some (.int c)] H
    refine q_when (et_B (ev_op (ev_var rfl) (ev_cval ev_c u1 u2) (rv_niT (u3 _) rfl rfl))) (fun hb H1 e1 => ?_) (fun hb H1 e1 => ?_)
    · show SupX.tMkSup _ _ _ _ _ _
      exact s_raiseW (vs := [.str "unit"]) (ea_cons ev_c ea_nil) rfl (by simp [Others]) (kE.mono (Ex.toS e1) fun a h => .inl h)
    · refine q_when (b := !(inV (.int c) [.int 1, .int 2, .int 4, .int 8, .int 16]) || decide (c < u)) (et_or (et_B (ev_op (ev_var rfl) (ev_cval ev_c c1 c2) (rv_niT (c3 _) rfl rfl))) fun _ => ?_) (fun hb H2 e2 => ?_) (fun hb H2 e2 => ?_)
      · walk_at "ev"
      · show SupX.tMkSup _ _ _ _ _ _
        exact s_raiseW (vs := [.str "chunk"]) (ea_cons ev_c ea_nil) rfl (by simp [Others]) (kE.mono (Ex.toS (e1.trans e2)) fun a h => .inl h)
      · have e12 := e1.trans e2
        refine q_seq (s_fld (ev_var rfl) (ev_var rfl) (e12 x _ hx) T.cl_Layout T.n_Layout_held_unit (by simp) fun H5 e5 => ?_)
        refine s_fld (fs := [("held_unit", .int u)]) (ev_var rfl) (ev_var rfl) upd_same T.cl_Layout T.n_Layout_held_chunk (by simp) fun H6 e6 => ?_
        exact kQ _ (ExS.mut (S := oneA x) ((ExS.mut (S := oneA x) ((Ex.toS e12).ex e5) (.inl rfl)).ex e6) (.inl rfl)) upd_same
def sp_unit (K : PySem.W.Frag) : Sp := fun vs H Q _ => ∃ (x : Addr) (dx : Addr) (u c : Int), vs = [.ref x] ∧ LayAt K H x dx u c ∧ RetV (.int u) H Q
theorem ok_Layout_unit {P : Program} {w : World} {K : PySem.W.Frag} {mg : Str → Option Value} {base : Heap} (T : Txt P K mg) : FnR P w K mg base (CX0) 1 (f_Layout_unit K) (sp_unit K) := by
  obtain ⟨fd, F⟩ := T.F_Layout_unit
  refine Rr.fnR_ok (F.ok sc_Layout_unit (fun vs H Q E h => ?_) (fun cdv A outer s H vs Q E hr h => ?_)) (F.bindsN fun _ _ _ _ _ _ us hl => match us, hl with | [_], _ => rfl)
  · obtain ⟨x, dx, u, c, rfl, _⟩ := h
    rfl
  · obtain ⟨x, dx, u, c, rfl, h⟩ := h
    refine ⟨_, PSs.nox (pss_one (ps_ret (pe_fld (pv 0) rfl))), ?_⟩
    obtain ⟨hx, k⟩ := h
    exact s_ret (ev_fld (ev_var rfl) hx T.cl_Layout T.n_Layout_held_unit rfl) k
def sp_chunk (K : PySem.W.Frag) : Sp := fun vs H Q _ => ∃ (x : Addr) (dx : Addr) (u c : Int), vs = [.ref x] ∧ LayAt K H x dx u c ∧ RetV (.int c) H Q
theorem ok_Layout_chunk {P : Program} {w : World} {K : PySem.W.Frag} {mg : Str → Option Value} {base : Heap} (T : Txt P K mg) : FnR P w K mg base (CX0) 1 (f_Layout_chunk K) (sp_chunk K) := by
  obtain ⟨fd, F⟩ := T.F_Layout_chunk
  refine Rr.fnR_ok (F.ok sc_Layout_chunk (fun vs H Q E h => ?_) (fun cdv A outer s H vs Q E hr h => ?_)) (F.bindsN fun _ _ _ _ _ _ us hl => match us, hl with | [_], _ => rfl)
  · obtain ⟨x, dx, u, c, rfl, _⟩ := h
    rfl
  · obtain ⟨x, dx, u, c, rfl, h⟩ := h
    refine ⟨_, PSs.nox (pss_one (ps_ret (pe_fld (pv 0) rfl))), ?_⟩
    obtain ⟨hx, k⟩ := h
    exact s_ret (ev_fld (ev_var rfl) hx T.cl_Layout T.n_Layout_held_chunk rfl) k
theorem ev_propR {te : TE} {σ : L2.St} {H : Hp} {a C dx : Addr} {fs : List (Str × V)} {sp : Sp} {z : V} (ho : Ev te σ H (.ref a)) (hh : H a = some (.ins C dx fs)) (hs : SpV sp [.ref a] H z) : Ev (Rr.tPR C sp te) σ H z := fun H1 e Q q =>
  ho H1 e _ fun H2 e2 => ⟨a, dx, fs, rfl, e2 a _ (e a _ hh), hs H2 (e.trans e2) Q (fun H4 e4 => q H4 (e2.trans e4)) _⟩
theorem sv_unit {K : PySem.W.Frag} {H : Hp} {x dx : Addr} {u c : Int} (h : LayAt K H x dx u c) : SpV (sp_unit K) [.ref x] H (.int u) := fun H1 e Q q E => ⟨x, dx, u, c, rfl, e x _ h, q⟩
theorem sv_chunk {K : PySem.W.Frag} {H : Hp} {x dx : Addr} {u c : Int} (h : LayAt K H x dx u c) : SpV (sp_chunk K) [.ref x] H (.int c) := fun H1 e Q q E => ⟨x, dx, u, c, rfl, e x _ h, q⟩
open PySem PySem.Spec PyProof.Rows L2 Evl Hb TL
def ProgE (K : PySem.W.Frag) (H : Hp) (x : Addr) (n : Nat) : Prop := ∃ (dx r D S L : Addr) (kvs : List (Key × V)) (sps : List Int), ProgAt K H x dx r D S L n kvs sps
def CodesE (K : PySem.W.Frag) (H : Hp) (c : Addr) : Prop := ∃ (dx o t : Addr) (stop : Int) (ks : List Int) (tkvs : List (Key × V)), CodesAt K H c dx o t stop ks tkvs
theorem ProgE.ex {K : PySem.W.Frag} {H H' : Hp} {x : Addr} {n : Nat} (h : ProgE K H x n) (e : Ex H H') : ProgE K H' x n := by
  obtain ⟨dx, r, D, S, L, kvs, sps, p⟩ := h
  exact ⟨dx, r, D, S, L, kvs, sps, p.ex e⟩
theorem CodesE.ex {K : PySem.W.Frag} {H H' : Hp} {c : Addr} (h : CodesE K H c) (e : Ex H H') : CodesE K H' c := by
  obtain ⟨dx, o, t, stop, ks, tkvs, p⟩ := h
  exact ⟨dx, o, t, stop, ks, tkvs, p.ex e⟩
theorem PairTs.ex {as : List Addr} {H H' : Hp} (h : PairTs as H) (e : Ex H H') : PairTs as H' := fun a ha => by
  obtain ⟨i, j, h⟩ := h a ha
  exact ⟨i, j, e a _ h⟩
structure RwD where
  (c lo po pn en sd st xo xn D cr : Addr)
  told : V
  (os ns cs : List Int)
  sas : List Addr
  kvs : List (Key × V)
def rwF (r : RwD) : List (Str × V) := [("codes", .ref r.c), ("laid_out", .ref r.lo), ("old", .ref r.po), ("new", .ref r.pn), ("entries", .ref r.en), ("stood", .ref r.sd), ("stretches", .ref r.st), ("old_program", .ref r.xo), ("new_program", .ref r.xn), ("answers", .ref r.D), ("told_ones", r.told), ("crossed", .ref r.cr)]
structure RwAt (K : PySem.W.Frag) (H : Hp) (x dx : Addr) (ex : List (Str × V)) (r : RwD) : Prop where
  ob : H x = some (.ins (C_Rewrite K) dx (rwF r ++ ex))
  co : CodesE K H r.c
  o : H r.po = some (.tup (r.os.map V.int))
  n : H r.pn = some (.tup (r.ns.map V.int))
  len : r.os.length = r.ns.length
  po : ProgE K H r.xo r.os.length
  pn : ProgE K H r.xn r.os.length
  an : H r.D = some (.dK r.kvs)
  ans : Answers r.kvs
  cr : H r.cr = some (.tup (r.cs.map V.int))
  st : H r.st = some (.tup (r.sas.map V.ref))
  sts : PairTs r.sas H
theorem RwAt.ex {K : PySem.W.Frag} {H H' : Hp} {x dx : Addr} {ex : List (Str × V)} {r : RwD} (h : RwAt K H x dx ex r) (e : Ex H H') : RwAt K H' x dx ex r := ⟨e _ _ h.ob, h.co.ex e, e _ _ h.o, e _ _ h.n, h.len, h.po.ex e, h.pn.ex e, e _ _ h.an, h.ans, e _ _ h.cr, e _ _ h.st, h.sts.ex e⟩
theorem at_in {ns : List Int} {a : Int} (h0 : 0 ≤ a) (h1 : a < ns.length) : ∃ v, ns[a.toNat]? = some v ∧ atI (ns.map V.int) a = some (.int v) := by
  have h : a.toNat < ns.length := by omega
  refine ⟨_, List.getElem?_eq_getElem h, ?_⟩
  have h2 := atI_nat (xs := ns.map V.int) (j := a.toNat) (v := .int ns[a.toNat]) (by rw [List.getElem?_map]; simp [h])
  rwa [Int.toNat_of_nonneg h0] at h2
def sp_values (K : PySem.W.Frag) : Sp := fun vs H Q _ => ∃ (x : Addr) (a : Int) (dx : Addr) (ex : List (Str × V)) (r : RwD), vs = [.ref x, .int a] ∧ RwAt K H x dx ex r ∧ 0 ≤ a ∧ a < r.os.length ∧
  ∀ p H2 (ns : List Int), Ex H H2 → H2 p = some (.lst (ns.map V.int)) → ns.length ≤ 3 → Q (.ref p) H2
theorem ok_values_at {P : Program} {w : World} {K : PySem.W.Frag} {mg : Str → Option Value} {base : Heap} (T : Txt P K mg) : FnR P w K mg base (CX0) 1 (f_values_at K) (sp_values K) := by
  obtain ⟨fd, F⟩ := T.F_values_at
  refine Rr.fnR_ok (F.ok sc_values_at (fun vs H Q E h => ?_) (fun cdv A outer s H vs Q E hr h => ?_)) (F.bindsN fun _ _ _ _ _ _ us hl => match us, hl with | [_, _], _ => rfl)
  · obtain ⟨x, a, dx, ex, r, rfl, _⟩ := h
    rfl
  · obtain ⟨x, a, dx, ex, r, rfl, h⟩ := h
    have hu := hu_of hr
    refine ⟨_, PSs.nox (pss_cons (ps_set (i := 2) sc_values_at.nd rfl (Or.inl rfl) (pe_lst (pa_cons (pe_ix ix_tup (pe_fld (pv 0) rfl) (pv 1) (fun _ _ => rfl)) (pa_cons (pe_ix ix_tup (pe_fld (pv 0) rfl) (pv 1) (fun _ _ => rfl)) pa_nil))))
      (pss_cons (ps_if (pt_cmp (pc_din (by exact hu) (pv 1) (pe_fld (pv 0) rfl))) (pss_one (ps_expr (pe_bm PySem.F.plainAttrs_list PySem.F.slot_list_append PySem.F.type_list_append mt_append (pv 2) (pa_cons (pe_fld (pe_fld (pv 0) rfl) rfl) pa_nil)))) pss_nil)
      (pss_one (ps_ret (pe_callB (cr_sortedSet rfl) rfl T.b_sorted (by decide +kernel) (pa_cons (pe_callTy (Ru.cr_setI rfl) rfl T.b_set (by decide +kernel) (pa_cons (pv 2) pa_nil)) pa_nil)))))), ?_⟩
    obtain ⟨R, ha0, ha1, k⟩ := h
    obtain ⟨vo, _, ho⟩ := at_in ha0 ha1
    obtain ⟨vn, _, hn⟩ := at_in (ns := r.ns) ha0 (by rw [← R.len]; exact ha1)
    refine q_asgL (xs := [.int vo, .int vn]) (el_lst (ea_cons (ev_op (ev_fld (ev_var rfl) R.ob T.cl_Rewrite T.n_Rewrite_old rfl) (ev_var rfl) (rv_ixT (st_of R.o) ho)) (ea_cons (ev_op (ev_fld (ev_var rfl) R.ob T.cl_Rewrite T.n_Rewrite_new rfl) (ev_var rfl) (rv_ixT (st_of R.n) hn)) ea_nil)) (by simp)) fun p H1 hp e1 h1 => ?_
    have R1 := R.ex e1
    obtain ⟨cdx, co, ct, stop, ks, tkvs, C⟩ := R1.co
    refine q_when (et_test (ev_din (k := .inl a) (ev_var rfl) (ev_fld (ev_var rfl) R1.ob T.cl_Rewrite T.n_Rewrite_answers rfl) (.inl R1.an))) (fun hb H2 e2 => ?_) (fun hb H2 e2 => ?_)
    · refine s_app (xs := [.int vo, .int vn]) (v := .int stop) (e2 p _ h1) (ev_var rfl) (ev_fld (ev_fld (ev_var rfl) (R1.ex e2).ob T.cl_Rewrite T.n_Rewrite_codes rfl) (C.ex e2).ob T.cl_CodeSet T.n_CodeSet_stop rfl) (by simp) fun H3 e3 => ?_
      dsimp only
      refine s_retG ?_
      refine ss_any (ns := [vo, vn, stop]) (ev_var rfl) (.inl (sq_of upd_same)) (by simp) fun q H4 ns' hq e4 h4 _ hl => k q _ ns' ?_ h4 hl
      exact ((e1.trans e2).trans e3 |>.mut hp).trans e4
    · refine ss_any (ns := [vo, vn]) (ev_var rfl) (.inl (sq_of (e2 p _ h1))) (by simp) fun q H4 ns' hq e4 h4 _ hl => k q _ ns' ((e1.trans e2).trans e4) h4 (by simp only [List.length_cons, List.length_nil] at hl; omega)
open PySem PySem.Spec PyProof.Rows L2 Evl Hb TL
theorem rv_ownP {K : PySem.W.Frag} {H : Hp} {x dx r D S L : Addr} {n : Nat} {kvs : List (Key × V)} {sps : List Int} {i : Int} {neg : Bool} (p : ProgAt K H x dx r D S L n kvs sps) :
    RV (Rr.rOwnIn (C_Program K) neg (sp_contains K)) (.int i) (.ref x) H (.bl (if neg then !(valV kvs (.inl i)).isSome else (valV kvs (.inl i)).isSome)) := fun H1 e Q q =>
  ⟨x, dx, _, rfl, (p.ex e).ob, x, i, dx, r, D, S, L, n, kvs, sps, rfl, p.ex e, fun H2 e2 => ⟨_, rfl, q H2 e2⟩⟩
theorem s_par {D : Ends} {σ : L2.St} {H : Hp} {i j : Nat} {ta : TA} {v u : V} (h : EvA ta σ H [v, u]) (k : ∀ H1, Ex H H1 → D.nx ((σ.set i (some v)).set j (some u)) H1) : tPar i j ta D σ H := h H (Ex.refl H) _ fun H1 e => ⟨_, _, rfl, k H1 e⟩
theorem ev_chain3 {ta tb tc td : TE} {r r' r'' : R2} {σ : L2.St} {H : Hp} {x y u v : V} {a b c : Bool} (ha : Ev ta σ H x) (hb : Ev tb σ H y) (hr : RV r x y H (.bl a)) (hc : Ev tc σ H u) (hr' : RV r' y u H (.bl b)) (hd : Ev td σ H v) (hr'' : RV r'' u v H (.bl c)) : Ev (Ru.tChain3 r r' r'' ta tb tc td) σ H (.bl (a && (b && c))) := fun H1 e Q q =>
  ha H1 e _ fun H2 e2 => hb H2 (e.trans e2) _ fun H3 e3 => hr H3 ((e.trans e2).trans e3) _ fun H4 e4 => ⟨a, rfl, by
    have e14 := ((e2.trans e3).trans e4)
    cases a with
    | false => exact q H4 e14
    | true =>
      exact hc H4 (e.trans e14) _ fun H5 e5 => hr' H5 (e.trans (e14.trans e5)) _ fun H6 e6 => ⟨b, rfl, by
        have e16 := (e14.trans e5).trans e6
        cases b with
        | false => exact q H6 e16
        | true => exact hd H6 (e.trans e16) _ fun H7 e7 => hr'' H7 (e.trans (e16.trans e7)) _ fun H8 e8 => q H8 ((e16.trans e7).trans e8)⟩⟩
theorem s_forA {K : PySem.W.Frag} {te : TE} {g : TG} {tb : TS} {D : Ends} {σ : L2.St} {H : Hp} {P : List V → Prop} (h : ∀ Q : VK, (∀ p H1 xs, P xs → Ex H H1 → H1 p = some (.lst xs) → Q (.ref p) H1) → te σ H Q)
    (k : ∀ p H1 xs, P xs → Ex H H1 → H1 p = some (.lst xs) → tFor (iList K (tC (.ref p))) g tb D σ H1) : tFor (iList K te) g tb D σ H := h _ fun p H1 xs hP e h1 => k p H1 xs hP e h1
theorem s_forEP {K : PySem.W.Frag} {tb : TS} {D : Ends} {σ : L2.St} {H : Hp} {a : Addr} {as : List Addr} {ta : TA} {j1 j2 j3 : Nat} (h : EvA ta σ H [.ref a]) (hx : SqT K H a (as.map V.ref)) (hp : PairTs as H) (Pv : Hp → Nat → L2.St → Hp → Prop) (hE : ∀ H1 i σ' H', Pv H1 i σ' H' → Ex H1 H') (h0 : ∀ H1, Ex H H1 → Pv H1 0 σ H1)
    (hs : ∀ H1 i x y σ' H', Ex H H1 → Pv H1 i σ' H' → ∀ H2, Ex H' H2 → tb { D with nx := Pv H1 (i + 1), ct := Pv H1 (i + 1), bk := D.nx } (((σ'.set j1 (some (.int (i : Nat)))).set j2 (some (.int x))).set j3 (some (.int y))) H2) (hd : ∀ H1 σ' H', Ex H H1 → Pv H1 as.length σ' H' → D.nx σ' H') :
    tFor (Ru.iEnumT K ta) (gTup K 2 (gCons (gName j1) (gCons (gTup K 2 (gCons (gName j2) (gCons (gName j3) gNil))) gNil))) tb D σ H := h H (Ex.refl H) _ fun H1 e => ⟨a, as.map V.ref, rfl, ex_t e hx, by
  have hl : as.length = (as.map V.ref).length := by simp
  refine for_J (n := as.length) (Pv H1) (h0 H1 e) (fun i σ' H' hi p => ⟨as.map V.ref, (as.map V.ref)[i]'(by rw [← hl]; exact hi), ex_t (e.trans (hE _ _ _ _ p)) hx, by simp [hi]⟩) (fun σ' H' p => ⟨as.map V.ref, ex_t (e.trans (hE _ _ _ _ p)) hx, hl.symm⟩) (fun i x σ' H' H'' hi p y => ?_) (fun σ' H' p => hd H1 σ' H' e p)
  have eH' := e.trans (hE _ _ _ _ p)
  obtain ⟨T, v, ex, hT, eH, hv⟩ := y
  subst ex eH
  have hv' := hv _ (ex_t eH' hx)
  rw [List.getElem?_map] at hv'
  obtain ⟨b, hb, rfl⟩ := Option.map_eq_some_iff.mp hv'
  obtain ⟨lo, hi2, h2⟩ := hp b (List.mem_of_getElem? hb)
  have eT : Ex H' (upd H' T (.tup [.int (i : Nat), .ref b])) := Ex.new hT
  exact ⟨T, [.int (i : Nat), .ref b], rfl, st_of upd_same, rfl, _, _, rfl, _, _, rfl, b, [.int lo, .int hi2], rfl, st_of (eT b _ (eH' b _ h2)), rfl, _, _, rfl, _, _, rfl, rfl, rfl, hs H1 i lo hi2 σ' H' e p _ eT⟩⟩
theorem s_whenNA {te : TE} {tu : TS} {D : Ends} {σ : L2.St} {H : Hp} (h : te σ H fun v H1 => ∃ b, v = V.bl b ∧ (if (!b) = true then tu D σ H1 else D.nx σ H1)) : tIfS (tNot (tTest te)) tu tNext D σ H := h
def sp_fits (K : PySem.W.Frag) : Sp := fun vs H Q _ => ∃ (x : Addr) (i : Int) (ans : V) (dx : Addr) (ex : List (Str × V)) (r : RwD), vs = [.ref x, .int i, ans] ∧ RwAt K H x dx ex r ∧ ((∃ j : Int, ans = .int j) ∨ ans = .str "wait") ∧ ∀ b H2, Ex H H2 → Q (.bl b) H2
theorem ok_stop_fits {P : Program} {w : World} {K : PySem.W.Frag} {mg : Str → Option Value} {base : Heap} (T : Txt P K mg) : FnR P w K mg base (CX0) 2 (f_stop_fits K) (sp_fits K) := by
  obtain ⟨fd, F⟩ := T.F_stop_fits
  have F_Program___contains__ := ok_Program___contains__ (w := w) (base := base) T
  refine Rr.fnR_ok (F.ok sc_stop_fits (fun vs H Q E h => ?_) (fun cdv A outer s H vs Q E hr h => ?_)) (F.bindsN fun _ _ _ _ _ _ us hl => match us, hl with | [_, _, _], _ => rfl)
  · obtain ⟨x, i, ans, dx, ex, r, rfl, _⟩ := h
    rfl
  · obtain ⟨x, i, ans, dx, ex, r, rfl, h⟩ := h
    have hr_Program___contains__ : Room 1 _ := hr.mono (by decide)
    refine ⟨_, PSs.nox (pss_cons (ps_par (i := 3) (j := 4) (by rfl) sc_stop_fits.nd rfl rfl (by decide) rfl rfl (pa_cons (pe_fld (pv 0) rfl) (pa_cons (pe_fld (pv 0) rfl) pa_nil)) (by rfl))
      (pss_cons (ps_if (PW.pt (pw_and (pt_cmpR (Rr.op_ownNotIn T.m_Program___contains__ F_Program___contains__ hr_Program___contains__) (pv 1) (pv 3) (by rfl)) (pw_and1 (pt_cmpR (Rr.op_ownNotIn T.m_Program___contains__ F_Program___contains__ hr_Program___contains__) (pv 1) (pv 4) (by rfl))))) (pss_one (ps_ret pe_bl)) pss_nil)
      (pss_cons (ps_if (pt_cmpR op_in_seq (pe_fld (pe_fld (pv 0) rfl) rfl) (pe_tup (pa_cons (pe_ix ix_tup (pe_fld (pv 0) rfl) (pv 1) (fun _ _ => rfl)) (pa_cons (pe_ix ix_tup (pe_fld (pv 0) rfl) (pv 1) (fun _ _ => rfl)) pa_nil))) (by rfl)) (pss_one (ps_ret pe_bl)) pss_nil)
      (pss_one (ps_ret (pe_or (pe_cmpR op_eq (pv 2) pe_str (nomark _)) (pe_or (pe_cmpR (Rr.op_ownIn T.m_Program___contains__ F_Program___contains__ hr_Program___contains__) (pv 2) (pv 3) (by rfl)) (pe_one (pe_cmpR (Rr.op_ownIn T.m_Program___contains__ F_Program___contains__ hr_Program___contains__) (pv 2) (pv 4) (by rfl)))))))))), ?_⟩
    obtain ⟨R, hans, k⟩ := h
    obtain ⟨pdx, pr, pD, pS, pL, pk, psp, PO⟩ := R.po
    obtain ⟨ndx, nr, nD, nS, nL, nk, nsp, PN⟩ := R.pn
    refine q_seq (s_par (ea_cons (ev_fld (ev_var rfl) R.ob T.cl_Rewrite T.n_Rewrite_old_program rfl) (ea_cons (ev_fld (ev_var rfl) R.ob T.cl_Rewrite T.n_Rewrite_new_program rfl) ea_nil)) fun H1 e1 => ?_)
    refine q_when (b := !(valV pk (.inl i)).isSome && !(valV nk (.inl i)).isSome) (et_and (et_B (ev_op (ev_var rfl) (ev_var rfl) (rv_ownP (neg := true) (PO.ex e1)))) fun _ => et_B (ev_op (ev_var rfl) (ev_var rfl) (rv_ownP (neg := true) (PN.ex e1)))) (fun hb H2 e2 => ?_) (fun hb H2 e2 => ?_)
    · exact s_ret ev_c fun H3 e3 => k false H3 ((e1.trans e2).trans e3)
    · have e12 := e1.trans e2
      have hin : 0 ≤ i ∧ i < r.os.length := by
        cases h1 : valV pk (.inl i) with
        | some v => exact PO.wh i v h1
        | none =>
          cases h2 : valV nk (.inl i) with
          | some v => exact PN.wh i v h2
          | none => rw [h1, h2] at hb; cases hb
      obtain ⟨vo, _, ho⟩ := at_in hin.1 hin.2
      obtain ⟨vn, _, hn⟩ := at_in (ns := r.ns) hin.1 (by rw [← R.len]; exact hin.2)
      have R2 := R.ex e12
      obtain ⟨cdx, co, ct, stop, ks, tkvs, C⟩ := R2.co
      refine q_when (b := inV (.int stop) [.int vo, .int vn]) (et_B (ev_inU (ev_fld (ev_fld (ev_var rfl) R2.ob T.cl_Rewrite T.n_Rewrite_codes rfl) C.ob T.cl_CodeSet T.n_CodeSet_stop rfl) (eu_tup (ea_cons (ev_op (ev_fld (ev_var rfl) R2.ob T.cl_Rewrite T.n_Rewrite_old rfl) (ev_var rfl) (rv_ixT (st_of R2.o) ho)) (ea_cons (ev_op (ev_fld (ev_var rfl) R2.ob T.cl_Rewrite T.n_Rewrite_new rfl) (ev_var rfl) (rv_ixT (st_of R2.n) hn)) ea_nil)) (by simp)) rfl rfl)) (fun hb H3 e3 => ?_) (fun hb H3 e3 => ?_)
      · exact s_ret ev_c fun H4 e4 => k false H4 ((e12.trans e3).trans e4)
      · have e13 := e12.trans e3
        rcases hans with ⟨j, rfl⟩ | rfl
        · exact s_ret (ev_orV (a := false) (ev_is (ev_op (ev_var rfl) ev_c (rv_eq rfl)) (by simp)) fun _ => ev_orV (ev_op (ev_var rfl) (ev_var rfl) (rv_ownP (neg := false) (PO.ex e13))) fun _ => ev_op (ev_var rfl) (ev_var rfl) (rv_ownP (neg := false) (PN.ex e13))) fun H4 e4 => k _ H4 (e13.trans e4)
        · exact s_ret (ev_orV (a := true) (b := true) (ev_is (ev_op (ev_var rfl) ev_c (rv_eq rfl)) (by simp)) fun z => by cases z) fun H4 e4 => k _ H4 (e13.trans e4)
def sp_look (K : PySem.W.Frag) : Sp := fun vs H Q E => ∃ (x : Addr) (dx : Addr) (ex : List (Str × V)) (r : RwD), vs = [.ref x] ∧ RwAt K H x dx ex r ∧ WeakE K noS H E ∧ ∀ H2, Ex H H2 → Q .non H2
theorem ok_look_through {P : Program} {w : World} {K : PySem.W.Frag} {mg : Str → Option Value} {base : Heap} (T : Txt P K mg) : FnR P w K mg base (L2.CX P w) 3 (f_look_through K) (sp_look K) := by
  obtain ⟨fd, F⟩ := T.F_look_through
  have F_Program___contains__ := ok_Program___contains__ (w := w) (base := base) T
  have F_stop_fits := ok_stop_fits (w := w) (base := base) T
  refine Rr.fnR_ok (F.ok sc_look_through (fun vs H Q E h => ?_) (fun cdv A outer s H vs Q E hr h => ?_)) (F.bindsN fun _ _ _ _ _ _ us hl => match us, hl with | [_], _ => rfl)
  · obtain ⟨x, dx, ex, r, rfl, _⟩ := h
    rfl
  · obtain ⟨x, dx, ex, r, rfl, h⟩ := h
    have hu := hu_of hr
    have hr_Program___contains__ : Room 1 _ := hr.mono (by decide)
    have hr_stop_fits : Room 2 _ := hr.mono (by decide)
    refine ⟨_, (pss_cons (ps_for (passes_of rfl) rfl (pi_tup (pe_fld (pv 0) rfl)) (pg_name (i := 1) sc_look_through.nd rfl (Or.inl rfl)) (pss_one (ps_if (PW.pt (pw_or (pt_cmpR (Rr.op_ownNotIn T.m_Program___contains__ F_Program___contains__ hr_Program___contains__) (pv 1) (pe_fld (pv 0) rfl) (by rfl)) (pw_or1 (pt_cmpR (Rr.op_ownNotIn T.m_Program___contains__ F_Program___contains__ hr_Program___contains__) (pv 1) (pe_fld (pv 0) rfl) (by rfl))))) (pss_one (SupX.ps_raiseSup rfl T.x_BadRewrite hr (takes_of rfl rfl rfl rfl) (pa_cons pe_str (pa_cons (pv 1) pa_nil)))) pss_nil)))
      (pss_cons (ps_for (passes_of rfl) rfl (pi_list (pe_callB cr_sortedI rfl T.b_sorted (by decide +kernel) (pa_cons (pe_callTy (call_listD rfl) rfl T.b_list (by decide +kernel) (pa_cons (pe_fld (pv 0) rfl) pa_nil)) pa_nil))) (pg_name (i := 1) sc_look_through.nd rfl (Or.inl rfl)) (pss_one (ps_if (pt_not (pt_val (Rr.pe_cR F_stop_fits hr_stop_fits T.k_stop_fits T.g_stop_fits Rr.pass0 (pa_cons (pv 0) (pa_cons (pv 1) (pa_cons (pe_dget (by exact hu) (pe_fld (pv 0) rfl) (pv 1) (fun _ _ => rfl)) pa_nil)))))) (pss_one (SupX.ps_raiseSup rfl T.x_BadRewrite hr (takes_of rfl rfl rfl rfl) (pa_cons pe_str (pa_cons (pv 1) pa_nil)))) pss_nil)))
      (pss_one (ps_for (passes_of rfl) rfl (Ru.pi_enumT rfl T.b_enumerate (pa_cons (pe_fld (pv 0) rfl) pa_nil)) (pg_tup (by rfl) (pgs_cons (pg_name (i := 2) sc_look_through.nd rfl (Or.inl rfl)) (pgs_cons (pg_tup (by rfl) (pgs_cons (pg_name (i := 3) sc_look_through.nd rfl (Or.inl rfl)) (pgs_cons (pg_name (i := 4) sc_look_through.nd rfl (Or.inl rfl)) pgs_nil))) pgs_nil))) (pss_one (ps_if (pt_not (Ru.pt_chain3 op_le op_lt op_le pe_int (pv 3) (pv 4) (pe_callB call_len_seq rfl T.b_len (by decide +kernel) (pa_cons (pe_fld (pv 0) rfl) pa_nil)))) (pss_one (SupX.ps_raiseSup rfl T.x_BadRewrite hr (takes_of rfl rfl rfl rfl) (pa_cons pe_str (pa_cons (pv 2) pa_nil)))) pss_nil)))))), ?_⟩
    obtain ⟨R, kE, kQ⟩ := h
    obtain ⟨pdx, pr, pD, pS, pL, pk, psp, PO⟩ := R.po
    obtain ⟨ndx, nr, nD, nS, nL, nk, nsp, PN⟩ := R.pn
    refine q_forI (ei_t (ev_fld (ev_var rfl) R.ob T.cl_Rewrite T.n_Rewrite_crossed rfl) (st_of R.cr)) (fun H1 i σ' H' => Ex H1 H' ∧ ∃ wv, σ' = [some (V.ref x), wv, none, none, none]) (fun _ _ _ _ h => h.1) (fun H1 e1 => ⟨Ex.refl _, _, rfl⟩) (fun H1 i y σ' H' e1 hy hP => ?_) (fun H1 σ' H' e1 hP => ?_)
    · obtain ⟨e2, wv, rfl⟩ := hP
      rw [List.getElem?_map] at hy
      obtain ⟨c, _, rfl⟩ := Option.map_eq_some_iff.mp hy
      have e12 := e1.trans e2
      dsimp only [gName]
      show tIfS _ _ _ _ [some (V.ref x), some (.int c), none, none, none] H'
      refine s_when (et_or (et_B (ev_op (ev_var rfl) (ev_fld (ev_var rfl) (R.ex e12).ob T.cl_Rewrite T.n_Rewrite_old_program rfl) (rv_ownP (neg := true) (PO.ex e12)))) fun _ => et_B (ev_op (ev_var rfl) (ev_fld (ev_var rfl) (R.ex e12).ob T.cl_Rewrite T.n_Rewrite_new_program rfl) (rv_ownP (neg := true) (PN.ex e12)))) (fun hb H3 e3 => ?_) (fun hb H3 e3 => ⟨e2.trans e3, _, rfl⟩)
      show SupX.tMkSup _ _ _ _ _ _
      exact s_raiseW (vs := [.str "crossings", .int c]) (ea_cons ev_c (ea_cons (ev_var rfl) ea_nil)) rfl (by simp [Others]) (kE.mono (Ex.toS (e12.trans e3)) fun a h => .inl h)
    · obtain ⟨e2, wv, rfl⟩ := hP
      have e12 := e1.trans e2
      have ik : IntKeys r.kvs := fun q hq => by
        obtain ⟨i, h, _⟩ := R.ans q hq
        exact ⟨i, h⟩
      refine q_seq (s_forA (P := fun xs => ∃ ns : List Int, xs = ns.map V.int ∧ ∀ k ∈ ns, ∃ v, valV r.kvs (.inl k) = some v) (fun Q q => sorted_any (ns := r.kvs.map fun q => keyI q.1) (by rw [← keys_ints ik]; exact el_listD (ev_fld (ev_var rfl) (R.ex e12).ob T.cl_Rewrite T.n_Rewrite_answers rfl) (.inl (R.ex e12).an)) fun ns p H2 hperm hp e h2 => q p H2 _ ⟨ns, rfl, fun k hk => ?_⟩ e h2) fun p H3 xs hxs e3 h3 => ?_)
      · obtain ⟨q, hq, e⟩ := List.mem_map.mp (hperm.mem_iff.mp hk)
        obtain ⟨i, hi⟩ := ik q hq
        obtain ⟨v, hv⟩ := valV_of_mem hq
        rw [hi] at e hv
        exact ⟨v, by rw [← e]; exact hv⟩
      · obtain ⟨ns, rfl, hns⟩ := hxs
        have e13 := e12.trans e3
        refine s_forI (ei_l ev_c (sq_of h3)) (fun H1 i σ' H' => Ex H1 H' ∧ ∃ wv, σ' = [some (V.ref x), wv, none, none, none]) (fun _ _ _ _ h => h.1) (fun H1 e1 => ⟨Ex.refl _, _, rfl⟩) (fun H4 i y σ' H5 e4 hy hP => ?_) (fun H4 σ' H5 e4 hP => ?_)
        · obtain ⟨e5, wv, rfl⟩ := hP
          rw [List.getElem?_map] at hy
          obtain ⟨c, hc, rfl⟩ := Option.map_eq_some_iff.mp hy
          have e15 := e13.trans (e4.trans e5)
          obtain ⟨v, hv⟩ := hns c (List.mem_of_getElem? hc)
          dsimp only [gName]
          show tIfS _ _ _ _ [some (V.ref x), some (.int c), none, none, none] H5
          refine s_whenNA ?_
          refine call_R (vs := [.ref x, .int c, v]) (ea_cons (ev_var rfl) (ea_cons (ev_var rfl) (ea_cons (ev_dget (k := .inl c) (ev_fld (ev_var rfl) (R.ex e15).ob T.cl_Rewrite T.n_Rewrite_answers rfl) (ev_var rfl) (.inl (R.ex e15).an) hv) ea_nil))) fun H6 e6 => ⟨x, c, v, dx, ex, r, rfl, R.ex (e15.trans e6), ?_, fun b H7 e7 => ⟨b, rfl, ?_⟩⟩
          · obtain ⟨_, _, h⟩ := R.ans _ (valV_mem hv)
            exact h
          · cases b with
            | true => exact ⟨(e5.trans e6).trans e7, _, rfl⟩
            | false =>
              rw [if_pos (show (!false) = true from rfl)]
              show SupX.tMkSup _ _ _ _ _ _
              exact s_raiseW (vs := [.str "stops", .int c]) (ea_cons ev_c (ea_cons (ev_var rfl) ea_nil)) rfl (by simp [Others]) (kE.mono (Ex.toS ((e15.trans e6).trans e7)) fun a h => .inl h)
        · obtain ⟨e5, wv, rfl⟩ := hP
          have e15 := e13.trans (e4.trans e5)
          dsimp only
          refine s_forEP (ea_cons (ev_fld (ev_var rfl) (R.ex e15).ob T.cl_Rewrite T.n_Rewrite_stretches rfl) ea_nil) (st_of (R.ex e15).st) (R.ex e15).sts (fun H1 i σ' H' => Ex H1 H' ∧ ∃ wv w1 w2 w3, σ' = [some (V.ref x), wv, w1, w2, w3]) (fun _ _ _ _ h => h.1) (fun H1 e1 => ⟨Ex.refl _, _, _, _, _, rfl⟩) (fun H6 i lo hi σ' H7 e6 hP H8 e8 => ?_) (fun H6 σ' H7 e6 hP => kQ H7 (e15.trans (e6.trans hP.1)))
          obtain ⟨e7, wv, w1, w2, w3, rfl⟩ := hP
          have e18 := e15.trans ((e6.trans e7).trans e8)
          show tIfS _ _ _ _ [some (V.ref x), wv, some (.int (i : Nat)), some (.int lo), some (.int hi)] H8
          refine s_when (et_not (et_test (ev_chain3 ev_c (ev_var rfl) rv_I0 (ev_var rfl) rv_I0 (ev_cb (ea_cons (ev_fld (ev_var rfl) (R.ex e18).ob T.cl_Rewrite T.n_Rewrite_old rfl) ea_nil) (rc_len_t (st_of (R.ex e18).o))) rv_I0))) (fun hb H9 e9 => ?_) (fun hb H9 e9 => ⟨(e7.trans e8).trans e9, _, _, _, _, rfl⟩)
          show SupX.tMkSup _ _ _ _ _ _
          exact s_raiseW (vs := [.str "stretches", .int (i : Nat)]) (ea_cons ev_c (ea_cons (ev_var rfl) ea_nil)) rfl (by simp [Others]) (kE.mono (Ex.toS (e18.trans e9)) fun a h => .inl h)
open PySem PySem.Spec PyProof.Rows L2 Evl Hb TL
theorem ExS.at {x a : Addr} {G G' : Hp} {o : HO} (e : ExS (oneA x) G G') (h : G a = some o) (hn : a ≠ x) : G' a = some o := e a o hn h
theorem ProgE.S {K : PySem.W.Frag} {G G' : Hp} {a x C dx : Addr} {fs : List (Str × V)} {n : Nat} (h : ProgE K G a n) (hx : G x = some (.ins C dx fs)) (hf : fs.length ≠ 4) (e : ExS (oneA x) G G') : ProgE K G' a n := by
  obtain ⟨pdx, r, D, S, L, kvs, sps, p⟩ := h
  refine ⟨pdx, r, D, S, L, kvs, sps, e a _ (fun z : a = x => ?_) p.ob, e D _ (ne_of p.la hx (by simp)) p.la, e S _ (ne_of p.sp hx (by simp)) p.sp, p.wh, p.sm⟩
  have h1 := p.ob
  rw [z, hx] at h1
  injection h1 with h1
  injection h1 with _ _ h1
  rw [h1] at hf
  exact hf rfl
theorem CodesE.S {K : PySem.W.Frag} {G G' : Hp} {c x C dx : Addr} {fs : List (Str × V)} (h : CodesE K G c) (hx : G x = some (.ins C dx fs)) (hf : fs.length ≠ 3) (e : ExS (oneA x) G G') : CodesE K G' c := by
  obtain ⟨pdx, o, t, stop, ks, tkvs, p⟩ := h
  exact ⟨pdx, o, t, stop, ks, tkvs, p.S hx hf e⟩
theorem PairTs.S {as : List Addr} {G G' : Hp} {x C dx : Addr} {fs : List (Str × V)} (h : PairTs as G) (hx : G x = some (.ins C dx fs)) (e : ExS (oneA x) G G') : PairTs as G' := fun a ha => by
  obtain ⟨i, j, h⟩ := h a ha
  exact ⟨i, j, e a _ (ne_of h hx (by simp)) h⟩
structure RwIn (K : PySem.W.Frag) (H : Hp) (c lay op np ep sp D stp : Addr) (crv : V) (os ns es ss : List Int) (kvs : List (Key × V)) (sas : List Addr) : Prop where
  co : CodesE K H c
  ly : ∃ ldx u ch, LayAt K H lay ldx u ch
  o : H op = some (.lst (os.map V.int))
  n : H np = some (.lst (ns.map V.int))
  e : H ep = some (.lst (es.map V.int))
  s : H sp = some (.lst (ss.map V.int))
  cr : crv = .non ∨ ∃ (q : Addr) (cs : List Int), crv = .ref q ∧ H q = some (.lst (cs.map V.int)) ∧ cs.length < 64
  an : H D = some (.dK kvs)
  ans : Answers kvs
  st : H stp = some (.lst (sas.map V.ref))
  sts : PairTs sas H
  lo : os.length ≤ 90000
  le : es.length ≤ 30
  ls : ss.length ≤ 30
  lk : kvs.length ≤ 95001
  lst : sas.length ≤ 95001
theorem RwIn.S {K : PySem.W.Frag} {H G : Hp} {x C dx c lay op np ep sp D stp : Addr} {crv : V} {os ns es ss : List Int} {kvs : List (Key × V)} {sas : List Addr} (h : RwIn K H c lay op np ep sp D stp crv os ns es ss kvs sas) (hx : H x = some (.ins C dx [])) (e : ExS (oneA x) H G) : RwIn K G c lay op np ep sp D stp crv os ns es ss kvs sas where
  co := h.co.S hx (by simp) e
  ly := by
    obtain ⟨ldx, u, ch, h⟩ := h.ly
    have h : H lay = some _ := h
    exact ⟨ldx, u, ch, e lay _ (ne_of h hx (by simp)) h⟩
  o := e op _ (ne_of h.o hx (by simp)) h.o
  n := e np _ (ne_of h.n hx (by simp)) h.n
  e := e ep _ (ne_of h.e hx (by simp)) h.e
  s := e sp _ (ne_of h.s hx (by simp)) h.s
  cr := h.cr.imp id fun ⟨q, cs, h1, h2, h3⟩ => ⟨q, cs, h1, e q _ (ne_of h2 hx (by simp)) h2, h3⟩
  an := e D _ (ne_of h.an hx (by simp)) h.an
  ans := h.ans
  st := e stp _ (ne_of h.st hx (by simp)) h.st
  sts := h.sts.S hx e
  lo := h.lo
  le := h.le
  ls := h.ls
  lk := h.lk
  lst := h.lst
theorem RwAt.S {K : PySem.W.Frag} {G G' : Hp} {x dx : Addr} {ex ex' : List (Str × V)} {r : RwD} (h : RwAt K G x dx ex r) (e : ExS (oneA x) G G') (hx : G' x = some (.ins (C_Rewrite K) dx (rwF r ++ ex'))) : RwAt K G' x dx ex' r where
  ob := hx
  co := h.co.S h.ob (by simp [rwF]) e
  o := e _ _ (ne_of h.o h.ob (by simp)) h.o
  n := e _ _ (ne_of h.n h.ob (by simp)) h.n
  len := h.len
  po := h.po.S h.ob (by simp [rwF]) e
  pn := h.pn.S h.ob (by simp [rwF]) e
  an := e _ _ (ne_of h.an h.ob (by simp)) h.an
  ans := h.ans
  cr := e _ _ (ne_of h.cr h.ob (by simp)) h.cr
  st := e _ _ (ne_of h.st h.ob (by simp)) h.st
  sts := h.sts.S h.ob e
theorem pairs_of {H : Hp} : ∀ {acc : List V}, (∀ v ∈ acc, ∃ (a : Addr) (i j : Int), v = .ref a ∧ H a = some (.tup [.int i, .int j])) → ∃ as : List Addr, acc = as.map V.ref ∧ PairTs as H
  | [], _ => ⟨[], rfl, fun a h => by cases h⟩
  | v :: acc, h => by
    obtain ⟨a, i, j, e, h1⟩ := h v (List.mem_cons_self ..)
    obtain ⟨as, e2, h2⟩ := pairs_of (acc := acc) fun v hv => h v (List.mem_cons_of_mem _ hv)
    refine ⟨a :: as, by rw [e, e2]; rfl, fun b hb => ?_⟩
    rcases List.mem_cons.mp hb with hb | hb
    · rw [hb]; exact ⟨i, j, h1⟩
    · exact h2 b hb
theorem ep_if {t : TT} {ta tb : TE} {σ : L2.St} {H : Hp} {P : V → Hp → Prop} {b : Bool} (h : EvT t σ H b) (h1 : b = true → EvP ta σ H P) (h2 : b = false → EvP tb σ H P) : EvP (tIf t ta tb) σ H P := fun H1 e Q q => h H1 e _ fun H2 e2 => by
  cases b with
  | true => exact h1 rfl H2 (e.trans e2) Q fun v H3 e3 => q v H3 (e2.trans e3)
  | false => exact h2 rfl H2 (e.trans e2) Q fun v H3 e3 => q v H3 (e2.trans e3)
theorem s_augR {K : PySem.W.Frag} {sp : Sp} {E : L2.St → XK} {ta : TA} {vs : List V} {i : Nat} {m : Int} {D : Ends} {σ : L2.St} {H : Hp} (hx : σ[i]? = some (some (.int m))) (h : EvA ta σ H vs) (k : ∀ H1, Ex H H1 → sp vs H1 (fun v H2 => ∃ p ys, [v] = [V.ref p] ∧ (SqL K H2 p ys ∨ SqT K H2 p ys) ∧ ipMul (.int m) (.int ys.length) H2 fun z H4 => D.nx (σ.set i (some z)) H4) (E σ)) :
    tAug i (tCB (rLenS K) (tCons (Rr.tR sp E ta) tNil)) ipMul D σ H := ⟨_, hx, h H (Ex.refl H) _ fun H1 e => k H1 e⟩
theorem q_dropR {sp : Sp} {E : L2.St → XK} {ta : TA} {vs : List V} {D : Ends} {tz : TS} {σ : L2.St} {H : Hp} (h : EvA ta σ H vs) (k : ∀ H1, Ex H H1 → sp vs H1 (fun _ H2 => tz D σ H2) (E σ)) : tSeq (tDrop (Rr.tR sp E ta)) tz D σ H := h H (Ex.refl H) _ fun H1 e => k H1 e
def sp_Rewrite (K : PySem.W.Frag) : Sp := fun vs H Q E => ∃ (x c lay op np ep sp D stp : Addr) (crv : V) (dx : Addr) (os ns es ss : List Int) (kvs : List (Key × V)) (sas : List Addr), vs = [.ref x, .ref c, .ref lay, .ref op, .ref np, .ref ep, .ref sp, crv, .ref D, .ref stp] ∧ H x = some (.ins (C_Rewrite K) dx []) ∧
  RwIn K H c lay op np ep sp D stp crv os ns es ss kvs sas ∧ WeakE K (oneA x) H E ∧ ∀ H2, ExS (oneA x) H H2 → Q .non H2
theorem ok_Rewrite___init__ {P : Program} {w : World} {K : PySem.W.Frag} {mg : Str → Option Value} {base : Heap} (T : Txt P K mg) : Rr.FnK P w K mg base (L2.CX P w) 9 (f_Rewrite___init__ K) 6 ["standing", "crossings", "stops", "stretches"] (sp_Rewrite K) := by
  obtain ⟨fd, F⟩ := T.F_Rewrite___init__
  have F_Layout := ok_Layout___init__ (w := w) (base := base) T
  have F_Layout_unit := ok_Layout_unit (w := w) (base := base) T
  have F_Layout_chunk := ok_Layout_chunk (w := w) (base := base) T
  have F_old_program_of := ok_old_program_of (w := w) (base := base) T
  have F_new_program_of := ok_new_program_of (w := w) (base := base) T
  have F_Program___contains__ := ok_Program___contains__ (w := w) (base := base) T
  have F_look_through := ok_look_through (w := w) (base := base) T
  have F_values_at := ok_values_at (w := w) (base := base) T
  obtain ⟨_, kb⟩ := Rr.kb_all (ps := ["self", "codes", "layout", "old", "new", "entries", "standing", "crossings", "stops", "stretches"]) F 6 ["standing", "crossings", "stops", "stretches"] (by simp) (fun D doc pm an cdv ct us ws l1 l2 => match us, ws, l1, l2 with | [_, _, _, _, _, _], [_, _, _, _], _, _ => rfl)
  refine Rr.fnK_ok (F.ok sc_Rewrite___init__ (fun vs H Q E h => ?_) (fun cdv A outer s H vs Q E hr h => ?_)) kb
  · obtain ⟨x, c, lay, op, np, ep, sp, D, stp, crv, dx, os, ns, es, ss, kvs, sas, rfl, _⟩ := h
    rfl
  · obtain ⟨x, c, lay, op, np, ep, sp, D, stp, crv, dx, os, ns, es, ss, kvs, sas, rfl, h⟩ := h
    have hu := hu_of hr
    have hr_Layout : Room 4 _ := hr.mono (by decide)
    have hr_Layout_unit : Room 2 _ := hr.mono (by decide)
    have hr_Layout_chunk : Room 2 _ := hr.mono (by decide)
    have hr_old_program_of : Room 8 _ := hr.mono (by decide)
    have hr_new_program_of : Room 8 _ := hr.mono (by decide)
    have hr_Program___contains__ : Room 1 _ := hr.mono (by decide)
    have hr_look_through : Room 3 _ := hr.mono (by decide)
    have hr_values_at : Room 1 _ := hr.mono (by decide)
    refine ⟨_, (pss_cons (ps_fld (pv 0) (pv 1) rfl)
      (pss_cons (ps_fld (pv 0) (Rr.pe_kR T.mk_Layout F_Layout hr_Layout T.g_Layout (Rr.passW (takes_of rfl rfl rfl rfl)) (pa_cons (Rr.pe_propR (pv 2) T.cl_Layout T.p_Layout_unit (F_Layout_unit) hr_Layout_unit) (pa_cons (Rr.pe_propR (pv 2) T.cl_Layout T.p_Layout_chunk (F_Layout_chunk) hr_Layout_chunk) pa_nil))) rfl)
      (pss_cons (ps_fld (pv 0) (pe_callTy call_tuple_of rfl T.b_tuple (by decide +kernel) (pa_cons (pe_callTy call_list_of rfl T.b_list (by decide +kernel) (pa_cons (pv 3) pa_nil)) pa_nil)) rfl)
      (pss_cons (ps_fld (pv 0) (pe_callTy call_tuple_of rfl T.b_tuple (by decide +kernel) (pa_cons (pe_callTy call_list_of rfl T.b_list (by decide +kernel) (pa_cons (pv 4) pa_nil)) pa_nil)) rfl)
      (pss_cons (ps_if (pt_cmpR op_ne (pe_callB call_len_seq rfl T.b_len (by decide +kernel) (pa_cons (pe_fld (pv 0) rfl) pa_nil)) (pe_callB call_len_seq rfl T.b_len (by decide +kernel) (pa_cons (pe_fld (pv 0) rfl) pa_nil)) (nomark _)) (pss_one (SupX.ps_raiseSup rfl T.x_UnlikeLengths hr (takes_of rfl rfl rfl rfl) (pa_cons (pe_callB call_len_seq rfl T.b_len (by decide +kernel) (pa_cons (pe_fld (pv 0) rfl) pa_nil)) (pa_cons (pe_callB call_len_seq rfl T.b_len (by decide +kernel) (pa_cons (pe_fld (pv 0) rfl) pa_nil)) pa_nil)))) pss_nil)
      (pss_cons (ps_fld (pv 0) (pe_callTy call_tuple_of rfl T.b_tuple (by decide +kernel) (pa_cons (pe_callB (cr_sortedSet rfl) rfl T.b_sorted (by decide +kernel) (pa_cons (pe_callTy (Ru.cr_setI rfl) rfl T.b_set (by decide +kernel) (pa_cons (pv 5) pa_nil)) pa_nil)) pa_nil)) rfl)
      (pss_cons (ps_fld (pv 0) (pe_callTy call_tuple_of rfl T.b_tuple (by decide +kernel) (pa_cons (pe_callB (cr_sortedSet rfl) rfl T.b_sorted (by decide +kernel) (pa_cons (pe_callTy (Ru.cr_setI rfl) rfl T.b_set (by decide +kernel) (pa_cons (pv 6) pa_nil)) pa_nil)) pa_nil)) rfl)
      (pss_cons (ps_fld (pv 0) (pe_callTy call_tuple_of rfl T.b_tuple (by decide +kernel) (pa_cons (pe_lc (own := [("pair", 13)]) (g := gName 13) (tt := tYes) rfl sc_Rewrite___init__.nd (pi_list (pv 9)) (blkOk_by (N := N_Rewrite___init__) (sc := defScope s_Rewrite___init__) (by decide +kernel)) (fun _ _ _ _ _ => (pg_name (i := 13) sc_Rewrite___init__.nd rfl (Or.inl rfl))) (fun _ _ _ _ _ => pts_nil) (fun _ _ _ _ _ => (pe_tup (pa_cons (pe_ix (Rw.ix_tupK (K := K) rfl) (pv 13) pe_int (fun _ _ => rfl)) (pa_cons (pe_ix (Rw.ix_tupK (K := K) rfl) (pv 13) pe_int (fun _ _ => rfl)) pa_nil))))) pa_nil)) rfl)
      (pss_cons (ps_fld (pv 0) (Rr.pe_cR F_old_program_of hr_old_program_of T.k_old_program_of T.g_old_program_of (Rr.passW (takes_of rfl rfl rfl rfl)) (pa_cons (pv 1) (pa_cons (pe_fld (pv 0) rfl) (pa_cons (pe_op op_catA (pe_fld (pv 0) rfl) (pe_fld (pv 0) rfl)) pa_nil)))) rfl)
      (pss_cons (ps_fld (pv 0) (Rr.pe_cR F_new_program_of hr_new_program_of T.k_new_program_of T.g_new_program_of (Rr.passW (takes_of rfl rfl rfl rfl)) (pa_cons (pv 1) (pa_cons (pe_fld (pv 0) rfl) (pa_cons (pe_fld (pv 0) rfl) pa_nil)))) rfl)
      (pss_cons (ps_fld (pv 0) pe_dnewK rfl)
      (pss_cons (ps_if (pt_cmpR op_notN (pv 8) pe_non (nomark _)) (pss_one (ps_fld (pv 0) (pe_dc (own := [("place", 14)]) (g := gName 14) rfl sc_Rewrite___init__.nd (pi_list (pe_callB cr_sortedI rfl T.b_sorted (by decide +kernel) (pa_cons (pe_callTy (call_listD rfl) rfl T.b_list (by decide +kernel) (pa_cons (pv 8) pa_nil)) pa_nil))) (blkOk_by (N := N_Rewrite___init__) (sc := defScope s_Rewrite___init__) (by decide +kernel)) (fun _ _ _ _ _ => (pg_name (i := 14) sc_Rewrite___init__.nd rfl (Or.inl rfl))) (fun _ _ _ _ _ => pts_nil) (fun _ _ _ _ _ => (pv 14)) (fun _ _ _ _ _ => (pe_dget (by exact hu) (pv 8) (pv 14) (fun _ _ => rfl)))) rfl)) pss_nil)
      (pss_cons (ps_fld (pv 0) pe_non rfl)
      (pss_cut (ps_if (pt_cmpR op_notN (pv 7) pe_non (nomark _)) (pss_one (ps_fld (pv 0) (pe_callTy call_tuple_of rfl T.b_tuple (by decide +kernel) (pa_cons (pe_callB (cr_sortedSet rfl) rfl T.b_sorted (by decide +kernel) (pa_cons (pe_callTy (Ru.cr_setI rfl) rfl T.b_set (by decide +kernel) (pa_cons (pv 7) pa_nil)) pa_nil)) pa_nil)) rfl)) pss_nil)
      (pss_cons (ps_setLc (i := 10) (own := [("place", 14)]) (g := gName 14) (tt := _) rfl sc_Rewrite___init__.nd rfl rfl (sw_true rfl rfl rfl (by decide +kernel)) (Rr.pi_own (pe_fld (pv 0) rfl) T.m_Program___iter__ (it_Program T) (hr.mono (by decide))) (blkOk_by (N := N_Rewrite___init__) (sc := defScope s_Rewrite___init__) (by decide +kernel)) (fun _ _ _ _ _ => (pg_name (i := 14) sc_Rewrite___init__.nd rfl (Or.inl rfl))) (fun _ _ _ _ _ => (pts_one (pt_cmpR (Rr.op_ownIn T.m_Program___contains__ F_Program___contains__ hr_Program___contains__) (pv 14) (Rw.pe_fldK (K := K) rfl (pv 0) rfl) (by rfl)))) (fun _ _ _ _ _ => (pv 14)))
      (pss_cons (ps_fld (pv 0) (pe_ifExp (pt_cmpR op_isN (pe_fld (pv 0) rfl) pe_non (nomark _)) (pe_callTy call_tuple_of rfl T.b_tuple (by decide +kernel) (pa_cons (pv 10) pa_nil)) (pe_fld (pv 0) rfl)) rfl)
      (pss_cons (ps_expr (Rr.pe_cR F_look_through hr_look_through T.k_look_through T.g_look_through (Rr.passW (takes_of rfl rfl rfl rfl)) (pa_cons (pv 0) pa_nil)))
      (pss_cons (ps_set (i := 11) sc_Rewrite___init__.nd rfl (Or.inl rfl) pe_int)
      (pss_cons (ps_fld (pv 0) (pe_lst pa_nil) rfl)
      (pss_cons (ps_for (passes_of rfl) rfl (pi_range1 rfl T.b_range (pa_cons (pe_callB call_len_seq rfl T.b_len (by decide +kernel) (pa_cons (pe_fld (pv 0) rfl) pa_nil)) pa_nil)) (pg_name (i := 12) sc_Rewrite___init__.nd rfl (Or.inl rfl)) (pss_one (ps_if (PW.pt (pw_or (pt_cmpR op_ne (pe_ix ix_tup (pe_fld (pv 0) rfl) (pv 12) (fun _ _ => rfl)) (pe_ix ix_tup (pe_fld (pv 0) rfl) (pv 12) (fun _ _ => rfl)) (nomark _)) (pw_or1 (pt_cmp (pc_din (by exact hu) (pv 12) (pe_fld (pv 0) rfl)))))) (pss_cons (ps_expr (pe_bm PySem.F.plainAttrs_list PySem.F.slot_list_append PySem.F.type_list_append mt_append (pe_fld (pv 0) rfl) (pa_cons (pv 12) pa_nil)))
      (pss_one (ps_aug (i := 11) sc_Rewrite___init__.nd rfl (Or.inl rfl) (pe_callB call_len_seq rfl T.b_len (by decide +kernel) (pa_cons (Rr.pe_cR F_values_at hr_values_at T.k_values_at T.g_values_at Rr.pass0 (pa_cons (pv 0) (pa_cons (pv 12) pa_nil))) pa_nil)) ip_mul))) pss_nil)))
      (pss_one (ps_fld (pv 0) (pv 11) rfl)))))))))))))))))))))), ?_⟩
    obtain ⟨hx, I, kE, kQ⟩ := h
    have fr : ∀ {G : Hp} {a : Addr}, ExS (oneA x) H G → G a = none → a ≠ x → H a = none := fun {G a} e h hn => by
      cases hh : H a with
      | none => rfl
      | some o => rw [e a o hn hh] at h; cases h
    -- codes
    refine q_st (ep_ev (ev_var rfl)) rfl hx T.cl_Rewrite T.n_Rewrite_codes (by simp) fun y H1 G1 e1 hy s1 x1 => ?_
    subst hy
    have S1 : ExS (oneA x) H G1 := (Ex.toS (S := oneA x) e1).trans s1
    have x1 : G1 x = some (.ins (C_Rewrite K) dx [("codes", .ref c)]) := x1
    -- layout
    refine q_st (P := fun v H2 => ∃ a, v = .ref a) (fun H2 e2 Q q => ?_) rfl x1 T.cl_Rewrite T.n_Rewrite_laid_out (by simp) fun y H2 G2 e2 hy s2 x2 => ?_
    · have Sa := S1.ex e2
      obtain ⟨ldx, u, ch, hly⟩ := (I.S hx Sa).ly
      refine call_kR (ea_cons (ev_propR (ev_var rfl) hly (sv_unit hly)) (ea_cons (ev_propR (ev_var rfl) hly (sv_chunk hly)) ea_nil)) fun H3 y dy e3 hy hdy hne => ?_
      have eN : Ex H3 (upd (upd H3 dy (.own y)) y (.ins (C_Layout K) dy [])) := (Ex.new hdy).trans (Ex.new (by rw [upd_ne (Ne.symm hne)]; exact hy))
      have yi : (upd (upd H3 dy (.own y)) y (.ins (C_Layout K) dy [])) y = some (.ins (C_Layout K) dy []) := upd_same
      generalize (upd (upd H3 dy (.own y)) y (.ins (C_Layout K) dy [])) = G at eN yi
      have Sb := Sa.ex (e3.trans eN)
      refine ⟨y, u, ch, dy, rfl, yi, kE.mono Sb fun a h => .inr ?_, fun H4 e4 _ => ⟨rfl, q _ H4 ((e3.trans ((Ex.toS (S := oneA y) eN).trans e4 |>.toEx fun a (h : a = y) => by rw [h]; exact hy))) ⟨y, rfl⟩⟩⟩
      have h : a = y := h
      rw [h]
      exact fr (Sa.ex e3) hy fun z => by rw [z, (e2.trans e3) x _ x1] at hy; cases hy
    · obtain ⟨lo, rfl⟩ := hy
      have S2 : ExS (oneA x) H G2 := (S1.ex e2).trans s2
      have x2 : G2 x = some (.ins (C_Rewrite K) dx [("codes", .ref c), ("laid_out", .ref lo)]) := x2
      -- old
      refine q_st (ep_U (tl_any (ev_var rfl) (sq_of (I.S hx S2).o))) rfl x2 T.cl_Rewrite T.n_Rewrite_old (by simp) fun y H3 G3 e3 hy s3 x3 => ?_
      obtain ⟨po, rfl, hpo, o3⟩ := hy
      have npo : po ≠ x := fun z => by rw [z, x2] at hpo; cases hpo
      have o3 := s3 po _ npo o3
      have S3 : ExS (oneA x) H G3 := (S2.ex e3).trans s3
      have x3 : G3 x = some (.ins (C_Rewrite K) dx [("codes", .ref c), ("laid_out", .ref lo), ("old", .ref po)]) := x3
      -- new
      refine q_st (ep_U (tl_any (ev_var rfl) (sq_of (I.S hx S3).n))) rfl x3 T.cl_Rewrite T.n_Rewrite_new (by simp) fun y H4 G4 e4 hy s4 x4 => ?_
      obtain ⟨pn, rfl, hpn, n4⟩ := hy
      have npn : pn ≠ x := fun z => by rw [z, x3] at hpn; cases hpn
      have n4 := s4 pn _ npn n4
      have o4 := s4 po _ npo (e4 po _ o3)
      have S4 : ExS (oneA x) H G4 := (S3.ex e4).trans s4
      have x4 : G4 x = some (.ins (C_Rewrite K) dx [("codes", .ref c), ("laid_out", .ref lo), ("old", .ref po), ("new", .ref pn)]) := x4
      refine q_when (et_B (ev_op (ev_cb (ea_cons (ev_fld (ev_var rfl) x4 T.cl_Rewrite T.n_Rewrite_old rfl) ea_nil) (rc_len_t (st_of o4))) (ev_cb (ea_cons (ev_fld (ev_var rfl) x4 T.cl_Rewrite T.n_Rewrite_new rfl) ea_nil) (rc_len_t (st_of n4))) (rv_ne rfl))) (fun hb H5 e5 => ?_) (fun hb H5 e5 => ?_)
      · show SupX.tMkSup _ _ _ _ _ _
        exact s_raiseW (ea_cons (ev_cb (ea_cons (ev_fld (ev_var rfl) (e5 _ _ x4) T.cl_Rewrite T.n_Rewrite_old rfl) ea_nil) (rc_len_t (st_of (e5 _ _ o4)))) (ea_cons (ev_cb (ea_cons (ev_fld (ev_var rfl) (e5 _ _ x4) T.cl_Rewrite T.n_Rewrite_new rfl) ea_nil) (rc_len_t (st_of (e5 _ _ n4)))) ea_nil)) rfl (by simp [Others]) (kE.mono (S4.ex e5) fun a h => .inl h)
      · have hlen : os.length = ns.length := by
          rw [List.length_map, List.length_map] at hb
          simp at hb
          omega
        have o5 := e5 _ _ o4
        have n5 := e5 _ _ n4
        have x5 := e5 _ _ x4
        have S5 := S4.ex e5
        clear hb
        -- entries
        refine q_st (P := fun v H2 => ∃ (r : Addr) (es' : List Int), v = .ref r ∧ r ≠ x ∧ H2 r = some (.tup (es'.map V.int)) ∧ es'.length ≤ 30) (fun H6 e6 Q q => tss_any (ev_var rfl) (.inl (sq_of (e6 _ _ (I.S hx S5).e))) (by have := I.le; omega) fun r H7 es' hr e7 h7 _ hl => q _ H7 e7 ⟨r, es', rfl, (fun z => by rw [z, e6 _ _ x5] at hr; cases hr), h7, by have := I.le; omega⟩) rfl x5 T.cl_Rewrite T.n_Rewrite_entries (by simp) fun y H6 G6 e6 hy s6 x6 => ?_
        obtain ⟨en, es', rfl, nen, en6, les⟩ := hy
        have en6 := s6 _ _ nen en6
        have o6 := s6 _ _ npo (e6 _ _ o5)
        have n6 := s6 _ _ npn (e6 _ _ n5)
        have S6 := (S5.ex e6).trans s6
        have x6 : G6 x = some (.ins (C_Rewrite K) dx [("codes", .ref c), ("laid_out", .ref lo), ("old", .ref po), ("new", .ref pn), ("entries", .ref en)]) := x6
        -- stood
        refine q_st (P := fun v H2 => ∃ (r : Addr) (es' : List Int), v = .ref r ∧ r ≠ x ∧ H2 r = some (.tup (es'.map V.int)) ∧ es'.length ≤ 30) (fun H7 e7 Q q => tss_any (ev_var rfl) (.inl (sq_of (e7 _ _ (I.S hx S6).s))) (by have := I.ls; omega) fun r H8 es' hr e8 h8 _ hl => q _ H8 e8 ⟨r, es', rfl, (fun z => by rw [z, e7 _ _ x6] at hr; cases hr), h8, by have := I.ls; omega⟩) rfl x6 T.cl_Rewrite T.n_Rewrite_stood (by simp) fun y H7 G7 e7 hy s7 x7 => ?_
        obtain ⟨sd, ss', rfl, nsd, sd7, lss⟩ := hy
        have sd7 := s7 _ _ nsd sd7
        have en7 := s7 _ _ nen (e7 _ _ en6)
        have o7 := s7 _ _ npo (e7 _ _ o6)
        have n7 := s7 _ _ npn (e7 _ _ n6)
        have S7 := (S6.ex e7).trans s7
        have x7 : G7 x = some (.ins (C_Rewrite K) dx [("codes", .ref c), ("laid_out", .ref lo), ("old", .ref po), ("new", .ref pn), ("entries", .ref en), ("stood", .ref sd)]) := x7
        clear en6 o6 n6 x6 o5 n5 x5 o4 n4 x4 x3 o3
        -- stretches
        refine q_st (P := fun v H2 => ∃ (t : Addr) (sas' : List Addr), v = .ref t ∧ t ≠ x ∧ H2 t = some (.tup (sas'.map V.ref)) ∧ PairTs sas' H2)
          (ep_tup ((ep_lcU (α := Addr) (ys := sas) (ex := V.ref) (R := fun v H => ∃ (a : Addr) (i j : Int), v = .ref a ∧ H a = some (.tup [.int i, .int j])) (fun v H1 H2 k h => ?_) (ei_l (ev_var rfl) (sq_of (I.S hx S7).st)) (by have := I.lst; rw [sizeLine_eq]; omega) (fun z => rfl) (fun a ha => ?_)).mono fun v H2 e2 h => ?_)) rfl x7 T.cl_Rewrite T.n_Rewrite_stretches (by simp) fun y H8 G8 e8 hy s8 x8 => ?_
        · obtain ⟨a, i, j, e, h⟩ := h
          exact ⟨a, i, j, e, k a _ (by simp) h⟩
        · obtain ⟨i, j, h⟩ := (I.S hx S7).sts a ha
          exact (ep_U (eu_tup (vs := [.int i, .int j]) (ea_cons (ev_op (ev_var rfl) ev_c (rv_ixT (st_of h) rfl)) (ea_cons (ev_op (ev_var rfl) ev_c (rv_ixT (st_of h) rfl)) ea_nil)) (by simp))).mono fun v H2 e2 ⟨p, hv, _, h2⟩ => ⟨p, i, j, hv, h2⟩
        · obtain ⟨p, acc, hv, hp, h2, hl, hr⟩ := h
          obtain ⟨as, rfl, h3⟩ := pairs_of hr
          exact ⟨p, hv, _, sq_of h2, fun t H3 ht e3 h => ⟨t, as, rfl, (fun z => by rw [z, x7] at ht; cases ht), h, h3.ex e3⟩⟩
        obtain ⟨st, sas', rfl, nst, st8, pr8⟩ := hy
        have pr8 := pr8.S (e8 _ _ x7) s8
        have st8 := s8 _ _ nst st8
        have sd8 := s8 _ _ nsd (e8 _ _ sd7)
        have en8 := s8 _ _ nen (e8 _ _ en7)
        have o8 := s8 _ _ npo (e8 _ _ o7)
        have n8 := s8 _ _ npn (e8 _ _ n7)
        have S8 := (S7.ex e8).trans s8
        have x8 : G8 x = some (.ins (C_Rewrite K) dx [("codes", .ref c), ("laid_out", .ref lo), ("old", .ref po), ("new", .ref pn), ("entries", .ref en), ("stood", .ref sd), ("stretches", .ref st)]) := x8
        clear sd7 en7 o7 n7 x7 s7 s8
        -- the old program
        refine q_st (P := fun v H2 => ∃ a : Addr, v = .ref a ∧ ProgE K H2 a os.length) (fun H9 e9 Q q => call_P3 (P := fun v H1 => ∃ (r : Addr) (ws : List Int), v = .ref r ∧ SqT K H1 r (ws.map V.int) ∧ ws.length ≤ 60) (ev_var rfl) (ev_fld (ev_var rfl) (e9 _ _ x8) T.cl_Rewrite T.n_Rewrite_old rfl) (fun H10 e10 Q q => ?_) fun v H10 e10 hv => ?_) rfl x8 T.cl_Rewrite T.n_Rewrite_old_program (by simp) fun y H9 G9 e9 hy s9 x9 => ?_
        · have e910 := e9.trans e10
          refine op_any (ev_go (ev_fld (ev_var rfl) (e910 _ _ x8) T.cl_Rewrite T.n_Rewrite_entries rfl) fun H11 e11 => ev_go (ev_fld (ev_var rfl) ((e910.trans e11) _ _ x8) T.cl_Rewrite T.n_Rewrite_stood rfl) fun H12 e12 => ?_)
          have e := (e910.trans e11).trans e12
          have h1 := e _ _ en8
          have h2 := e _ _ sd8
          refine ⟨en, sd, _, _, rfl, rfl, st_of h1, st_of h2, by rw [List.length_map, List.length_map, sizeLine_eq]; omega, fun _ => q _ _ (e11.trans e12) ⟨sd, ss', rfl, st_of h2, by omega⟩, fun _ _ => q _ _ (e11.trans e12) ⟨en, es', rfl, st_of h1, by omega⟩, fun _ _ p hp => q _ _ ((e11.trans e12).trans (Ex.new hp)) ⟨p, es' ++ ss', rfl, st_of (by rw [List.map_append]; exact upd_same), by rw [List.length_append]; omega⟩⟩
        · obtain ⟨r, ws, rfl, hr, hl⟩ := hv
          have e := e9.trans e10
          have S10 := S8.ex e
          obtain ⟨cdx, co, ct, stop, ks, tkvs, C⟩ := (I.S hx S10).co
          exact ⟨c, po, r, cdx, co, ct, stop, ks, tkvs, os, ws, rfl, C, st_of (e _ _ o8), hr, by have := I.lo; omega, by omega, kE.mono S10 (fun a h => h.elim), fun H11 a adx r D S L kvs sps hn e11 hp => q _ H11 (e10.trans e11) ⟨a, rfl, adx, r, D, S, L, kvs, sps, hp⟩⟩
        obtain ⟨xo, rfl, po9⟩ := hy
        have po9 := po9.S (e9 _ _ x8) (by simp) s9
        have pr9 := (pr8.ex e9).S (e9 _ _ x8) s9
        have st9 := s9 _ _ nst (e9 _ _ st8)
        have o9 := s9 _ _ npo (e9 _ _ o8)
        have n9 := s9 _ _ npn (e9 _ _ n8)
        have en9 := s9 _ _ nen (e9 _ _ en8)
        have S9 := (S8.ex e9).trans s9
        have x9 : G9 x = some (.ins (C_Rewrite K) dx [("codes", .ref c), ("laid_out", .ref lo), ("old", .ref po), ("new", .ref pn), ("entries", .ref en), ("stood", .ref sd), ("stretches", .ref st), ("old_program", .ref xo)]) := x9
        clear sd8 en8 o8 n8 x8 st8 pr8 s9
        -- the new program
        refine q_st (P := fun v H2 => ∃ a : Addr, v = .ref a ∧ ProgE K H2 a os.length) (fun H9 e9 Q q => call_R (vs := [.ref c, .ref pn, .ref en]) (ea_cons (ev_var rfl) (ea_cons (ev_fld (ev_var rfl) (e9 _ _ x9) T.cl_Rewrite T.n_Rewrite_new rfl) (ea_cons (ev_fld (ev_var rfl) (e9 _ _ x9) T.cl_Rewrite T.n_Rewrite_entries rfl) ea_nil))) fun H10 e10 => ?_) rfl x9 T.cl_Rewrite T.n_Rewrite_new_program (by simp) fun y H10 G10 e10 hy s10 x10 => ?_
        · have e := e9.trans e10
          have S10 := S9.ex e
          obtain ⟨cdx, co, ct, stop, ks, tkvs, C⟩ := (I.S hx S10).co
          exact ⟨c, pn, en, cdx, co, ct, stop, ks, tkvs, ns, es', rfl, C, st_of (e _ _ n9), st_of (e _ _ en9), by have := I.lo; omega, by omega, kE.mono S10 (fun a h => h.elim), fun H11 a adx r D S L kvs sps hn e11 hp => q _ H11 (e10.trans e11) ⟨a, rfl, adx, r, D, S, L, kvs, sps, by rw [hlen]; exact hp⟩⟩
        obtain ⟨xn, rfl, pn10⟩ := hy
        have pn10 := pn10.S (e10 _ _ x9) (by simp) s10
        have po10 := (po9.ex e10).S (e10 _ _ x9) (by simp) s10
        have pr10 := (pr9.ex e10).S (e10 _ _ x9) s10
        have st10 := s10 _ _ nst (e10 _ _ st9)
        have o10 := s10 _ _ npo (e10 _ _ o9)
        have n10 := s10 _ _ npn (e10 _ _ n9)
        have S10 := (S9.ex e10).trans s10
        have x10 : G10 x = some (.ins (C_Rewrite K) dx [("codes", .ref c), ("laid_out", .ref lo), ("old", .ref po), ("new", .ref pn), ("entries", .ref en), ("stood", .ref sd), ("stretches", .ref st), ("old_program", .ref xo), ("new_program", .ref xn)]) := x10
        clear en9 o9 n9 x9 st9 pr9 s10
        -- answers
        refine q_st (ep_D ed_new) rfl x10 T.cl_Rewrite T.n_Rewrite_answers (by simp) fun y H11 G11 e11 hy s11 x11 => ?_
        obtain ⟨D0, rfl, _, _⟩ := hy
        have S11 := (S10.ex e11).trans s11
        have x11 : G11 x = some (.ins (C_Rewrite K) dx [("codes", .ref c), ("laid_out", .ref lo), ("old", .ref po), ("new", .ref pn), ("entries", .ref en), ("stood", .ref sd), ("stretches", .ref st), ("old_program", .ref xo), ("new_program", .ref xn), ("answers", .ref D0)]) := x11
        have T11 : ExS (oneA x) G10 G11 := (Ex.toS (S := oneA x) e11).trans s11
        refine q_when (b := true) (et_notN (ev_var rfl) (by simp)) (fun _ H12 e12 => ?_) (fun z => by cases z)
        have I12 := I.S hx (S11.ex e12)
        have ik : IntKeys kvs := fun q hq => by
          obtain ⟨i, h, _⟩ := I12.ans q hq
          exact ⟨i, h⟩
        refine s_st (P := fun v H2 => ∃ (a : Addr) (kvs' : List (Key × V)), v = .ref a ∧ a ≠ x ∧ H2 a = some (.dK kvs') ∧ Answers kvs') (ep_dcA (PP := fun xs => ∃ ks : List Int, xs = ks.map V.int ∧ ks.length ≤ 95001 ∧ ∀ k ∈ ks, ∃ v, valV kvs (.inl k) = some v)
          (fun H13 e13 Q q => sorted_any (ns := kvs.map fun q => keyI q.1) (by rw [← keys_ints ik]; exact el_listD (ev_var rfl) (.inl (e13 _ _ I12.an))) fun ks p H14 hperm hp e14 h14 => q _ H14 e14 ⟨p, _, rfl, ⟨ks, rfl, by rw [hperm.length_eq, List.length_map]; exact I.lk, fun k hk => ?_⟩, h14⟩)
          fun p xs H13 e13 hxs h13 => ?_) rfl (e12 _ _ x11) T.cl_Rewrite T.n_Rewrite_answers (by simp) fun y H13 G13 e13 hy s13 x13 => ?_
        · obtain ⟨q, hq, e⟩ := List.mem_map.mp (hperm.mem_iff.mp hk)
          obtain ⟨i, hi⟩ := ik q hq
          obtain ⟨v, hv⟩ := valV_of_mem hq
          rw [hi] at e hv
          exact ⟨v, by rw [← e]; exact hv⟩
        · obtain ⟨ks, rfl, hkl, hks⟩ := hxs
          obtain ⟨zs, hz1, hz2⟩ := choose_list hks
          have hzl : zs.length = ks.length := by rw [← hz1, List.length_map]
          have hzm : (zs.map fun z => V.int z.1) = ks.map V.int := by rw [← hz1, List.map_map]; rfl
          refine (ep_D (el_dc (α := Int × V) (ys := zs) (ex := fun z => V.int z.1) (fun z => .inl z.1) (fun z => z.2) (by rw [hzm]; exact ei_l ev_c (sq_of h13)) (by rw [sizeLine_eq]; omega) (fun z => rfl) (fun z hz => ev_var rfl) (fun z hz => ev_dget (k := .inl z.1) (ev_var rfl) (ev_var rfl) (.inl (e13 _ _ I12.an)) (hz2 z hz)))).mono fun v H2 e2 ⟨a, hv, ha, h2⟩ => ⟨a, _, hv, (fun z => by rw [z, (e12.trans e13) _ _ x11] at ha; cases ha), h2, fun q hq => ?_⟩
          obtain ⟨z, hz, rfl⟩ := List.mem_map.mp (mem_madeK hq)
          obtain ⟨i, h1, h2⟩ := I.ans _ (valV_mem (hz2 z hz))
          exact ⟨z.1, rfl, h2⟩
        obtain ⟨Dn, kvs', rfl, nDn, an13, ans'⟩ := hy
        have T13 : ExS (oneA x) G10 G13 := (T11.ex (e12.trans e13)).trans s13
        have an13 := s13 _ _ nDn an13
        have S13 := S10.trans T13
        have x13 : G13 x = some (.ins (C_Rewrite K) dx [("codes", .ref c), ("laid_out", .ref lo), ("old", .ref po), ("new", .ref pn), ("entries", .ref en), ("stood", .ref sd), ("stretches", .ref st), ("old_program", .ref xo), ("new_program", .ref xn), ("answers", .ref Dn)]) := x13
        have po13 := po10.S x10 (by simp) T13
        have pn13 := pn10.S x10 (by simp) T13
        have pr13 := pr10.S x10 T13
        have st13 := T13 _ _ nst st10
        have o13 := T13 _ _ npo o10
        have n13 := T13 _ _ npn n10
        dsimp only
        clear po10 pn10 pr10 st10 o10 n10 x10 x11 I12 T11 S11 S10 T13
        -- told
        refine q_st (ep_ev ev_c) rfl x13 T.cl_Rewrite T.n_Rewrite_told_ones (by simp) fun y H14 G14 e14 hy s14 x14 => ?_
        subst hy
        have x14 : G14 x = some (.ins (C_Rewrite K) dx [("codes", .ref c), ("laid_out", .ref lo), ("old", .ref po), ("new", .ref pn), ("entries", .ref en), ("stood", .ref sd), ("stretches", .ref st), ("old_program", .ref xo), ("new_program", .ref xn), ("answers", .ref Dn), ("told_ones", .non)]) := x14
        have T14 : ExS (oneA x) G13 G14 := (Ex.toS (S := oneA x) e14).trans s14
        refine q_cut (M := fun σ' G => σ' = L2.start N_Rewrite___init__ [.ref x, .ref c, .ref lay, .ref op, .ref np, .ref ep, .ref sp, crv, .ref D, .ref stp] ∧ ExS (oneA x) G13 G ∧ ∃ told, G x = some (.ins (C_Rewrite K) dx [("codes", .ref c), ("laid_out", .ref lo), ("old", .ref po), ("new", .ref pn), ("entries", .ref en), ("stood", .ref sd), ("stretches", .ref st), ("old_program", .ref xo), ("new_program", .ref xn), ("answers", .ref Dn), ("told_ones", told)]) ∧
          (told = .non ∨ ∃ (q : Addr) (cs : List Int), told = .ref q ∧ q ≠ x ∧ G q = some (.tup (cs.map V.int)))) ?_ fun σ' G15 hM => ?_
        · rcases (I.S hx (S13.trans T14)).cr with hcr | ⟨q, cs, hcr, hq, hcl⟩
          · subst hcr
            refine s_when (b := false) (et_notN (ev_var rfl) (by simp)) (fun z => by cases z) fun _ H15 e15 => ⟨rfl, T14.ex e15, .non, e15 _ _ x14, .inl rfl⟩
          · subst hcr
            refine s_when (b := true) (et_notN (ev_var rfl) (by simp)) (fun _ H15 e15 => ?_) fun z => by cases z
            refine s_st (P := fun v H2 => ∃ (r : Addr) (es' : List Int), v = .ref r ∧ r ≠ x ∧ H2 r = some (.tup (es'.map V.int))) (fun H16 e16 Q k => tss_any (ev_var rfl) (.inl (sq_of ((e15.trans e16) _ _ hq))) hcl fun r H17 es' hr e17 h17 _ hl => k _ H17 e17 ⟨r, es', rfl, (fun z => by rw [z, (e15.trans e16) _ _ x14] at hr; cases hr), h17⟩) rfl (e15 _ _ x14) T.cl_Rewrite T.n_Rewrite_told_ones (by simp) fun y H16 G16 e16 hy s16 x16 => ?_
            obtain ⟨r, es', rfl, nr, hr⟩ := hy
            exact ⟨rfl, (T14.ex (e15.trans e16)).trans s16, .ref r, x16, .inr ⟨r, es', rfl, nr, s16 _ _ nr hr⟩⟩
        obtain ⟨rfl, T15, told, x15, htold⟩ := hM
        have S15 := S13.trans T15
        have po15 := po13.S x13 (by simp) T15
        have pn15 := pn13.S x13 (by simp) T15
        have pr15 := pr13.S x13 T15
        have st15 := T15 _ _ nst st13
        have o15 := T15 _ _ npo o13
        have n15 := T15 _ _ npn n13
        have an15 := T15 _ _ nDn an13
        clear po13 pn13 pr13 st13 o13 n13 an13 x13 x14 T14 T15 S13 s14
        -- both
        obtain ⟨pdx, pr, pD, pS, pL, pk, psp, PO⟩ := po15
        obtain ⟨ndx, nr, nD, nS, nL, nk, nsp, PN⟩ := pn15
        refine q_asgL (el_lc (α := Int) (ys := psp) (ex := V.int) (fun k => (valV nk (.inl k)).isSome) V.int (ei_own (ev_fld (ev_var rfl) x15 T.cl_Rewrite T.n_Rewrite_old_program rfl) PO.ob rfl (sq_of PO.sp)) (by have := PO.sm; rw [sizeLine_eq]; omega) (fun z => rfl) (fun k hk => et_B (ev_op (ev_var rfl) (ev_fld (ev_var rfl) x15 T.cl_Rewrite T.n_Rewrite_new_program rfl) (rv_ownP (neg := false) PN))) (fun k hk _ => ev_var rfl)) fun bo H16 hbo e16 b16 => ?_
        have x16 := e16 _ _ x15
        refine q_st (P := fun v H2 => ∃ (r : Addr) (cs : List Int), v = .ref r ∧ r ≠ x ∧ H2 r = some (.tup (cs.map V.int))) (ep_if (et_isN (ev_fld (ev_var rfl) x16 T.cl_Rewrite T.n_Rewrite_told_ones rfl) rfl) (fun hb => (ep_U (eu_tupV (ev_var rfl) (sq_of b16))).mono fun v H2 e2 ⟨p, hv, hp, h2⟩ => ⟨p, _, hv, (fun z => by rw [z, x16] at hp; cases hp), h2⟩) (fun hb => (ep_ev (ev_fld (ev_var rfl) x16 T.cl_Rewrite T.n_Rewrite_told_ones rfl)).mono fun v H2 e2 hv => ?_)) rfl x16 T.cl_Rewrite T.n_Rewrite_crossed (by simp) fun y H17 G17 e17 hy s17 x17 => ?_
        · rcases htold with ht | ⟨q, cs, ht, hq, h⟩
          · rw [ht] at hb; simp at hb
          · exact ⟨q, cs, hv.trans ht, hq, e2 _ _ (e16 _ _ h)⟩
        obtain ⟨cr, cs, rfl, ncr, cr17⟩ := hy
        have T17 : ExS (oneA x) G15 G17 := (Ex.toS (S := oneA x) (e16.trans e17)).trans s17
        have S17 := S15.trans T17
        have R : RwAt K G17 x dx [] ⟨c, lo, po, pn, en, sd, st, xo, xn, Dn, cr, told, os, ns, cs, sas', kvs'⟩ := {
          ob := x17
          co := (I.S hx S17).co
          o := T17 _ _ npo o15
          n := T17 _ _ npn n15
          len := hlen
          po := ProgE.S ⟨pdx, pr, pD, pS, pL, pk, psp, PO⟩ x15 (by simp) T17
          pn := ProgE.S ⟨ndx, nr, nD, nS, nL, nk, nsp, PN⟩ x15 (by simp) T17
          an := T17 _ _ nDn an15
          ans := ans'
          cr := s17 _ _ ncr cr17
          st := T17 _ _ nst st15
          sts := pr15.S x15 T17 }
        generalize hr : (⟨c, lo, po, pn, en, sd, st, xo, xn, Dn, cr, told, os, ns, cs, sas', kvs'⟩ : RwD) = r at R
        have hos : r.os.length ≤ 90000 := by rw [← hr]; exact I.lo
        have hbo2 : bo ≠ x := fun z => by rw [z, x15] at hbo; cases hbo
        clear htold x17 x16 x15 PO PN pr15 st15 o15 n15 an15 T17 s17 cr17
        -- looked through
        refine q_dropR (ea_cons (ev_var rfl) ea_nil) fun H18 e18 => ⟨x, dx, [], r, rfl, R.ex e18, kE.mono (S17.ex e18) (fun a h => h.elim), fun H19 e19 => ?_⟩
        have R19 := R.ex (e18.trans e19)
        have S19 := S17.ex (e18.trans e19)
        refine q_asg ev_c fun H20 e20 => ?_
        have R20 := R19.ex e20
        have S20 := S19.ex e20
        refine q_st (ep_L (el_lst ea_nil (by simp))) rfl R20.ob T.cl_Rewrite T.n_Rewrite_open_ones (by simp [rwF]) fun y H21 G21 e21 hy s21 x21 => ?_
        obtain ⟨L, rfl, hL, l21⟩ := hy
        have nL : L ≠ x := fun z => by rw [z, R20.ob] at hL; cases hL
        have l21 := s21 _ _ nL l21
        have S21 : ExS (oneA x) H20 G21 := (Ex.toS (S := oneA x) e21).trans s21
        have x21 : G21 x = some (.ins (C_Rewrite K) dx (rwF r ++ [(("open_ones" : Str), V.ref L)])) := x21
        have R21 := R20.S S21 x21
        refine q_forR1 (n := (r.os.length : Nat)) (ea_cons (ev_is (ev_cb (ea_cons (ev_fld (ev_var rfl) R21.ob T.cl_Rewrite T.n_Rewrite_old rfl) ea_nil) (rc_len_t (st_of R21.o))) (by rw [List.length_map])) ea_nil) (by omega)
          (fun i σ' H' => ExS (oneA x) H20 H' ∧ H' x = some (.ins (C_Rewrite K) dx (rwF r ++ [(("open_ones" : Str), V.ref L)])) ∧ (∃ zs : List V, H' L = some (.lst zs) ∧ zs.length ≤ i) ∧ ∃ (m : Int) (w1 : Option V), σ' = [some (.ref x), some (.ref c), some (.ref lay), some (.ref op), some (.ref np), some (.ref ep), some (.ref sp), some crv, some (.ref D), some (.ref stp), some (.ref bo), some (.int m), w1, none, none])
          (fun H22 e22 => ⟨S21.ex e22, e22 _ _ x21, ⟨[], e22 _ _ l21, by simp⟩, 1, none, rfl⟩) (fun i σ' H' hi hP => ?_) (fun σ' H' hP => ?_)
        · obtain ⟨S22, x22, ⟨zs, l22, hz⟩, m, w1, rfl⟩ := hP
          have R22 := R20.S S22 x22
          have h0 : (0 : Int) ≤ (i : Int) := by omega
          obtain ⟨vo, _, ho⟩ := at_in (ns := r.os) h0 hi
          obtain ⟨vn, _, hn⟩ := at_in (ns := r.ns) h0 (by rw [← R22.len]; exact hi)
          dsimp only [List.set]
          refine s_when (et_or (et_B (ev_op (ev_op (ev_fld (ev_var rfl) R22.ob T.cl_Rewrite T.n_Rewrite_old rfl) (ev_var rfl) (rv_ixT (st_of R22.o) ho)) (ev_op (ev_fld (ev_var rfl) R22.ob T.cl_Rewrite T.n_Rewrite_new rfl) (ev_var rfl) (rv_ixT (st_of R22.n) hn)) (rv_ne rfl))) fun _ => et_test (ev_din (k := .inl (i : Int)) (ev_var rfl) (ev_fld (ev_var rfl) R22.ob T.cl_Rewrite T.n_Rewrite_answers rfl) (.inl R22.an))) (fun hb H23 e23 => ?_) (fun hb H23 e23 => ⟨S22.ex e23, e23 _ _ x22, ⟨zs, e23 _ _ l22, by omega⟩, m, _, rfl⟩)
          refine q_app (e23 _ _ l22) (ev_fld (ev_var rfl) (e23 _ _ x22) T.cl_Rewrite T.n_Rewrite_open_ones rfl) (ev_var rfl) (by omega) fun H24 e24 => ?_
          have e234 := e23.trans e24
          have S24 : ExS (oneA x) H20 (upd H24 L (.lst (zs ++ [.int (i : Int)]))) := ExS.mut (S := oneA x) (S22.ex e234) (.inr hL)
          have x24 : (upd H24 L (.lst (zs ++ [.int (i : Int)]))) x = some (.ins (C_Rewrite K) dx (rwF r ++ [(("open_ones" : Str), V.ref L)])) := by rw [upd_ne (Ne.symm nL)]; exact e234 _ _ x22
          have l24 : (upd H24 L (.lst (zs ++ [.int (i : Int)]))) L = some (.lst (zs ++ [.int (i : Int)])) := upd_same
          generalize (upd H24 L (.lst (zs ++ [.int (i : Int)]))) = G24 at S24 x24 l24
          refine s_augR rfl (ea_cons (ev_var rfl) (ea_cons (ev_var rfl) ea_nil)) fun H25 e25 => ⟨x, (i : Int), dx, _, r, rfl, (R20.S S24 x24).ex e25, h0, hi, fun p H26 ns' e26 h26 hl => ⟨p, _, rfl, .inl (sq_of h26), m, _, rfl, rfl, .inr (by rw [List.length_map]; constructor <;> omega), S24.ex (e25.trans e26), (e25.trans e26) _ _ x24, ⟨_, (e25.trans e26) _ _ l24, by rw [List.length_append, List.length_singleton]; omega⟩, _, _, rfl⟩⟩
        · obtain ⟨S22, x22, _, m, w1, rfl⟩ := hP
          refine s_st (ep_ev (ev_var rfl)) rfl x22 T.cl_Rewrite T.n_Rewrite_many_images (by simp [rwF]) fun y H23 G23 e23 _ s23 _ => ?_
          exact kQ G23 ((S20.trans (S22.ex e23)).trans s23)
open PySem PySem.Spec PyProof.Rows L2 Evl Hb TL
def thenR {α β : Type} (x : Except (Nat × Nat) α) (f : α → Except (Nat × Nat) β) : Except (Nat × Nat) β := match x with
  | .error e => .error e
  | .ok a => f a
def endR (rows : List (List Str)) (n : Nat) : Except (Nat × Nat) Unit := if n < rows.length then .error (n, 0) else .ok ()
def tailR5 (rows : List (List Str)) (n : Nat) : Except (Nat × Nat) Unit := thenR (strR rows (rows.length + 1) n) fun q => endR rows q.1
def tailR4 (rows : List (List Str)) (n : Nat) : Except (Nat × Nat) Unit := thenR (ansR rows (rows.length + 1) n []) fun p => tailR5 rows p.1
def tailR3 (rows : List (List Str)) (n : Nat) : Except (Nat × Nat) Unit := if begins rows n "crossings" then thenR (numbersR rows n "crossings" 0 true) fun _ => tailR4 rows (n + 1) else tailR4 rows n
def tailR2 (rows : List (List Str)) (n : Nat) : Except (Nat × Nat) Unit := if begins rows n "standing" then thenR (numbersR rows n "standing" 1 true) fun _ => tailR3 rows (n + 1) else tailR3 rows n
def readR5 (rows : List (List Str)) (n : Nat) : Except (Nat × Nat) Unit := thenR (numbersR rows n "entries" 1 true) fun _ => tailR2 rows (n + 1)
def readR4 (rows : List (List Str)) (n : Nat) : Except (Nat × Nat) Unit := thenR (numbersR rows n "new" 1 false) fun _ => readR5 rows (n + 1)
def readR3 (rows : List (List Str)) (n : Nat) : Except (Nat × Nat) Unit := thenR (numbersR rows n "old" 1 false) fun _ => readR4 rows (n + 1)
def readR2 (rows : List (List Str)) (n : Nat) : Except (Nat × Nat) Unit := thenR (fixedR rows n "layout" ["n", "n"]) fun _ => readR3 rows (n + 1)
def readR1 (rows : List (List Str)) : Except (Nat × Nat) Unit := thenR (formsR rows (rows.length + 1) 1 []) fun p => readR2 rows p.1
def readR (rows : List (List Str)) : Except (Nat × Nat) Unit := thenR (fixedR rows 0 "stop" ["n"]) fun _ => readR1 rows
theorem errR {α β : Type} {rd : Except (Nat × Nat) β} {x : Except (Nat × Nat) α} {f : α → Except (Nat × Nat) β} {e : Nat × Nat} (h : rd = thenR x f) (hx : x = .error e) : rd = .error e := by rw [h, hx]; rfl
theorem okR {α β : Type} {rd : Except (Nat × Nat) β} {x : Except (Nat × Nat) α} {f : α → Except (Nat × Nat) β} {a : α} (h : rd = thenR x f) (hx : x = .ok a) : rd = f a := by rw [h, hx]; rfl
theorem numsGo_len {asc : Bool} : ∀ {ws : List Str} {i : Nat} {f g : List Int}, numsGo asc ws i f = .ok g → g.length = f.length + ws.length
  | [], i, f, g, h => by cases h; rfl
  | w :: r, i, f, g, h => by
    unfold numsGo at h
    split at h
    · split at h
      · cases h
      · have := numsGo_len h
        rw [this]; simp; omega
    · cases h
theorem numbersR_len {rows : List (List Str)} {n : Nat} {w : Str} {least : Int} {asc : Bool} {f : List Int} (G : Good rows) (h : numbersR rows n w least asc = .ok f) : f.length ≤ 30 := by
  unfold numbersR at h
  cases q : takeR rows n w with
  | error e => rw [q] at h; cases h
  | ok ws =>
    rw [q] at h
    replace h : (match numsAll ws least asc with | .error j => Except.error (n, j) | .ok f => Except.ok f) = .ok f := h
    have hw := G.wid ws (takeR_ok q).1
    cases q2 : numsAll ws least asc with
    | error j => rw [q2] at h; cases h
    | ok g =>
      rw [q2] at h
      cases h
      unfold numsAll at q2
      cases q3 : numsGo asc (ws.drop 1) 1 [] with
      | error j => rw [q3] at q2; cases q2
      | ok g =>
        rw [q3] at q2
        replace q2 : (if (g.length : Int) < least then Except.error ws.length else Except.ok g) = .ok f := q2
        have := numsGo_len q3
        rw [List.length_drop, List.length_nil] at this
        split at q2
        · cases q2
        · cases q2; omega
section
variable {K : PySem.W.Frag} {σ : L2.St} {H : Hp} {D : Ends} {tz : TS} {te ta tb : TE} {t : TT} {i : Nat}
theorem q_asgIx {j : Int} (h : te σ H fun v H1 => rIxL K v (.int j) H1 fun w H2 => ∃ a n, [w] = [V.str a] ∧ PySem.intText? a = some n ∧ a.length ≤ 640 ∧ tz D (σ.set i (some (.int n))) H2) :
    tSeq (tAsg (tCB (fun xs H Q => ∃ a n, xs = [V.str a] ∧ PySem.intText? a = some n ∧ a.length ≤ 640 ∧ Q (.int n) H) (tCons (tOp (rIxL K) te (tC (.int j))) tNil)) (gName i)) tz D σ H := h
theorem q_asgT {g : TG} (h : te σ H fun v H1 => g v σ H1 fun σ2 H2 => tz D σ2 H2) : tSeq (tAsg te g) tz D σ H := h
theorem s_asgIf {b : Bool} (h : EvT t σ H b) (h1 : b = true → ∀ H1, Ex H H1 → ta σ H1 fun v H2 => D.nx (σ.set i (some v)) H2) (h2 : b = false → ∀ H1, Ex H H1 → tb σ H1 fun v H2 => D.nx (σ.set i (some v)) H2) : tAsg (tIf t ta tb) (gName i) D σ H := h H (Ex.refl H) _ fun H1 e => by
  cases b with
  | true => exact h1 rfl H1 e
  | false => exact h2 rfl H1 e
end
theorem s_dputV {i j : Nat} {tv : TE} {D : Ends} {σ : L2.St} {H : Hp} (h : tv σ H fun v H1 => ∃ x, σ[i]? = some (some x) ∧ ∃ y, σ[j]? = some (some y) ∧ ∃ a H4, x = V.ref a ∧ DPut H1 a y v H4 ∧ D.nx σ H4) : sDPut (tVar i) (tVar j) tv D σ H := h
theorem call_knR {sp : Sp} {vs zs : List V} {E : L2.St → XK} {ta tk : TA} {Q : VK} {C : Addr} {n m : Nat} {σ : L2.St} {H : Hp} (h : EvA ta σ H vs) (hk : EvA tk σ H zs) (l1 : vs.length = n) (l2 : zs.length = m) (k : ∀ H1 x dx, Ex H H1 → H1 x = none → H1 dx = none → dx ≠ x → sp ((.ref x :: vs) ++ zs) (upd (upd H1 dx (.own x)) x (.ins C dx [])) (fun v H2 => v = .non ∧ Q (.ref x) H2) (E σ)) : Rr.tKNR C sp E n m ta tk σ H Q :=
  h H (Ex.refl H) _ fun H1 e => hk H1 e _ fun H2 e2 => ⟨l1, l2, fun x dx hx hd hn => k H2 x dx (e.trans e2) hx hd hn⟩
theorem s_forZ {K : PySem.W.Frag} {ta : TA} {tb : TS} {D : Ends} {σ : L2.St} {H : Hp} {a b : Addr} {bf : List Int} {as : List Addr} {j1 j2 j3 j4 : Nat} (h : EvA ta σ H [.ref a, .ref b]) (hl : as.length = bf.length) (Pv : Nat → L2.St → Hp → Prop) (h0 : ∀ H1, Ex H H1 → Pv 0 σ H1)
    (hk : ∀ i σ' H', Pv i σ' H' → H' a = some (.lst (bf.map V.int)) ∧ H' b = some (.lst (as.map V.ref)) ∧ FormTs as H')
    (hs : ∀ i x s n z σ' H', i < bf.length → Pv i σ' H' → s.length ≤ 95000 → ∀ H2, Ex H' H2 → tb { D with nx := Pv (i + 1), ct := Pv (i + 1), bk := D.nx } ((((σ'.set j1 (some (.int x))).set j2 (some (.str s))).set j3 (some (.int n))).set j4 (some (.str z))) H2) (hd : ∀ σ' H', Pv bf.length σ' H' → D.nx σ' H') :
    tFor (iZip K ta) (gTup K 2 (gCons (gName j1) (gCons (gTup K 3 (gCons (gName j2) (gCons (gName j3) (gCons (gName j4) gNil)))) gNil))) tb D σ H := h H (Ex.refl H) _ fun H1 e => by
  obtain ⟨k1, k2, _⟩ := hk 0 σ H1 (h0 H1 e)
  refine ⟨a, b, bf.map V.int, as.map V.ref, rfl, sq_of k1, sq_of k2, ?_⟩
  refine for_J (n := bf.length) Pv (h0 H1 e) (fun i σ' H' hi p => ?_) (fun σ' H' p => ?_) (fun i x σ' H' H'' hi p y => ?_) (fun σ' H' p => hd σ' H' p)
  · obtain ⟨k1, k2, _⟩ := hk i σ' H' p
    exact ⟨bf.map V.int, as.map V.ref, .int bf[i], .ref (as[i]'(by omega)), sq_of k1, sq_of k2, by simp [hi], by rw [List.getElem?_map, List.getElem?_eq_getElem (by omega)]; rfl⟩
  · obtain ⟨k1, k2, _⟩ := hk _ σ' H' p
    exact ⟨bf.map V.int, as.map V.ref, sq_of k1, sq_of k2, .inl (by rw [List.length_map]; exact Nat.le_refl _)⟩
  · obtain ⟨k1, k2, k3⟩ := hk i σ' H' p
    obtain ⟨T, u, v, ex, hT, eH, hu, hv⟩ := y
    subst ex eH
    have hu := hu _ (sq_of k1)
    have hv := hv _ (sq_of k2)
    rw [List.getElem?_map] at hu hv
    obtain ⟨c, hc, rfl⟩ := Option.map_eq_some_iff.mp hu
    obtain ⟨q, hq, rfl⟩ := Option.map_eq_some_iff.mp hv
    obtain ⟨s, z, n, h1, h2, h3⟩ := k3 q (List.mem_of_getElem? hq)
    have eT : Ex H' (upd H' T (.tup [.int c, .ref q])) := Ex.new hT
    exact ⟨T, [.int c, .ref q], rfl, st_of upd_same, rfl, _, _, rfl, _, _, rfl, q, [.str s, .int n, .str z], rfl, st_of (eT q _ h1), rfl, _, _, rfl, _, _, rfl, _, _, rfl, rfl, rfl, hs i c s n z σ' H' hi p h2 _ eT⟩
def sp_read_rewrite (K : PySem.W.Frag) : Sp := fun vs H Q E => ∃ t : Str, vs = [.str t] ∧ t.length ≤ 90000 ∧ Good (rowsOf t) ∧ (∀ ln w, readR (rowsOf t) = .error (ln, w) → RaiseX (C_BadText K) (errF ln w) H E) ∧ (readR (rowsOf t) = .ok () → WeakE K noS H E ∧ ∀ v H2, Ex H H2 → Q v H2)
theorem ok_read_rewrite {P : Program} {w : World} {K : PySem.W.Frag} {mg : Str → Option Value} {base : Heap} (T : Txt P K mg) : FnR P w K mg base (L2.CX P w) 11 (f_read_rewrite K) (sp_read_rewrite K) := by
  obtain ⟨fd, F⟩ := T.F_read_rewrite
  have F_Reader := ok_Reader___init__ (w := w) (base := base) T
  have F_Reader_fixed := ok_Reader_fixed (w := w) (base := base) T
  have F_read_forms := ok_read_forms (w := w) (base := base) T
  have F_Reader_numbers := ok_Reader_numbers (w := w) (base := base) T
  have F_Reader_begins := ok_Reader_begins (w := w) (base := base) T
  have F_read_answers := ok_read_answers (w := w) (base := base) T
  have F_read_stretches := ok_read_stretches (w := w) (base := base) T
  have F_Reader_end := ok_Reader_end (w := w) (base := base) T
  have F_Form := ok_Form___init__ (w := w) (base := base) T
  have F_CodeSet := ok_CodeSet___init__ (w := w) (base := base) T
  have F_Layout := ok_Layout___init__ (w := w) (base := base) T
  have F_Rewrite := ok_Rewrite___init__ (w := w) (base := base) T
  refine Rr.fnR_ok (F.ok sc_read_rewrite (fun vs H Q E h => ?_) (fun cdv A outer s H vs Q E hr h => ?_)) (F.bindsN fun _ _ _ _ _ _ us hl => match us, hl with | [_], _ => rfl)
  · obtain ⟨t, rfl, _⟩ := h
    rfl
  · obtain ⟨t, rfl, h⟩ := h
    have hu := hu_of hr
    have hr_Reader : Room 3 _ := hr.mono (by decide)
    have hr_Reader_fixed : Room 4 _ := hr.mono (by decide)
    have hr_read_forms : Room 4 _ := hr.mono (by decide)
    have hr_Reader_numbers : Room 4 _ := hr.mono (by decide)
    have hr_Reader_begins : Room 1 _ := hr.mono (by decide)
    have hr_read_answers : Room 4 _ := hr.mono (by decide)
    have hr_read_stretches : Room 5 _ := hr.mono (by decide)
    have hr_Reader_end : Room 3 _ := hr.mono (by decide)
    have hr_Form : Room 4 _ := hr.mono (by decide)
    have hr_CodeSet : Room 5 _ := hr.mono (by decide)
    have hr_Layout : Room 4 _ := hr.mono (by decide)
    have hr_Rewrite : Room 10 _ := hr.mono (by decide)
    refine ⟨_, (pss_cons (ps_set (i := 1) sc_read_rewrite.nd rfl (Or.inl rfl) (Rr.pe_kR T.mk_Reader F_Reader hr_Reader T.g_Reader Rr.pass0 (pa_cons (pv 0) pa_nil)))
      (pss_cons (ps_set (i := 2) sc_read_rewrite.nd rfl (Or.inl rfl) (pe_callTy call_int_str rfl T.b_int (by decide +kernel) (pa_cons (pe_ix ix_list (Rr.pe_mR (pv 1) T.cl_Reader T.m_Reader_fixed F_Reader_fixed hr_Reader_fixed (Rr.passW (takes_of rfl rfl rfl rfl)) (pa_cons pe_str (pa_cons pe_str pa_nil))) pe_int (fun _ _ => rfl)) pa_nil)))
      (pss_cons (ps_asg (Rr.pe_cR F_read_forms hr_read_forms T.k_read_forms T.g_read_forms (Rr.passW (takes_of rfl rfl rfl rfl)) (pa_cons (pv 1) pa_nil)) (pg_tup (by rfl) (pgs_cons (pg_name (i := 3) sc_read_rewrite.nd rfl (Or.inl rfl)) (pgs_cons (pg_name (i := 4) sc_read_rewrite.nd rfl (Or.inl rfl)) pgs_nil))))
      (pss_cons (ps_set (i := 5) sc_read_rewrite.nd rfl (Or.inl rfl) (Rr.pe_mR (pv 1) T.cl_Reader T.m_Reader_fixed F_Reader_fixed hr_Reader_fixed (Rr.passW (takes_of rfl rfl rfl rfl)) (pa_cons pe_str (pa_cons pe_str (pa_cons pe_str pa_nil)))))
      (pss_cons (ps_set (i := 6) sc_read_rewrite.nd rfl (Or.inl rfl) (Rr.pe_mR (pv 1) T.cl_Reader T.m_Reader_numbers F_Reader_numbers hr_Reader_numbers (Rr.passW (takes_of rfl rfl rfl rfl)) (pa_cons pe_str (pa_cons pe_int (pa_cons pe_bl pa_nil)))))
      (pss_cons (ps_set (i := 7) sc_read_rewrite.nd rfl (Or.inl rfl) (Rr.pe_mR (pv 1) T.cl_Reader T.m_Reader_numbers F_Reader_numbers hr_Reader_numbers (Rr.passW (takes_of rfl rfl rfl rfl)) (pa_cons pe_str (pa_cons pe_int (pa_cons pe_bl pa_nil)))))
      (pss_cons (ps_set (i := 8) sc_read_rewrite.nd rfl (Or.inl rfl) (Rr.pe_mR (pv 1) T.cl_Reader T.m_Reader_numbers F_Reader_numbers hr_Reader_numbers (Rr.passW (takes_of rfl rfl rfl rfl)) (pa_cons pe_str (pa_cons pe_int (pa_cons pe_bl pa_nil)))))
      (pss_cut (ps_set (i := 9) sc_read_rewrite.nd rfl (Or.inl rfl) (pe_ifExp (pt_val (Rr.pe_mR (pv 1) T.cl_Reader T.m_Reader_begins F_Reader_begins hr_Reader_begins Rr.pass0 (pa_cons pe_str pa_nil))) (Rr.pe_mR (pv 1) T.cl_Reader T.m_Reader_numbers F_Reader_numbers hr_Reader_numbers (Rr.passW (takes_of rfl rfl rfl rfl)) (pa_cons pe_str (pa_cons pe_int (pa_cons pe_bl pa_nil)))) (pe_lst pa_nil)))
      (pss_cut (ps_set (i := 10) sc_read_rewrite.nd rfl (Or.inl rfl) (pe_ifExp (pt_val (Rr.pe_mR (pv 1) T.cl_Reader T.m_Reader_begins F_Reader_begins hr_Reader_begins Rr.pass0 (pa_cons pe_str pa_nil))) (Rr.pe_mR (pv 1) T.cl_Reader T.m_Reader_numbers F_Reader_numbers hr_Reader_numbers (Rr.passW (takes_of rfl rfl rfl rfl)) (pa_cons pe_str (pa_cons pe_int (pa_cons pe_bl pa_nil)))) pe_non))
      (pss_cons (ps_set (i := 11) sc_read_rewrite.nd rfl (Or.inl rfl) (Rr.pe_cR F_read_answers hr_read_answers T.k_read_answers T.g_read_answers (Rr.passW (takes_of rfl rfl rfl rfl)) (pa_cons (pv 1) pa_nil)))
      (pss_cons (ps_set (i := 12) sc_read_rewrite.nd rfl (Or.inl rfl) (Rr.pe_cR F_read_stretches hr_read_stretches T.k_read_stretches T.g_read_stretches (Rr.passW (takes_of rfl rfl rfl rfl)) (pa_cons (pv 1) pa_nil)))
      (pss_cons (ps_expr (Rr.pe_mR0 (pv 1) T.cl_Reader T.m_Reader_end F_Reader_end hr_Reader_end (Rr.passW (takes_of rfl rfl rfl rfl))))
      (pss_cons (ps_set (i := 13) sc_read_rewrite.nd rfl (Or.inl rfl) pe_dnewK)
      (pss_cons (ps_for (passes_of rfl) rfl (pi_zip rfl T.b_zip (pa_cons (pv 3) (pa_cons (pv 4) pa_nil))) (pg_tup (by rfl) (pgs_cons (pg_name (i := 14) sc_read_rewrite.nd rfl (Or.inl rfl)) (pgs_cons (pg_tup (by rfl) (pgs_cons (pg_name (i := 15) sc_read_rewrite.nd rfl (Or.inl rfl)) (pgs_cons (pg_name (i := 16) sc_read_rewrite.nd rfl (Or.inl rfl)) (pgs_cons (pg_name (i := 17) sc_read_rewrite.nd rfl (Or.inl rfl)) pgs_nil)))) pgs_nil))) (pss_one (ps_dput (by exact hu) (pv 13) (pv 14) (Rr.pe_kR T.mk_Form F_Form hr_Form T.g_Form (Rr.passW (takes_of rfl rfl rfl rfl)) (pa_cons (pv 15) (pa_cons (pv 16) (pa_cons (pv 17) pa_nil)))) rfl)))
      (pss_cons (ps_set (i := 18) sc_read_rewrite.nd rfl (Or.inl rfl) (Rr.pe_kR T.mk_CodeSet F_CodeSet hr_CodeSet T.g_CodeSet (Rr.passW (takes_of rfl rfl rfl rfl)) (pa_cons (pv 2) (pa_cons (pv 13) pa_nil))))
      (pss_cons (ps_set (i := 19) sc_read_rewrite.nd rfl (Or.inl rfl) (Rr.pe_kR T.mk_Layout F_Layout hr_Layout T.g_Layout (Rr.passW (takes_of rfl rfl rfl rfl)) (pa_cons (pe_callTy call_int_str rfl T.b_int (by decide +kernel) (pa_cons (pe_ix ix_list (pv 5) pe_int (fun _ _ => rfl)) pa_nil)) (pa_cons (pe_callTy call_int_str rfl T.b_int (by decide +kernel) (pa_cons (pe_ix ix_list (pv 5) pe_int (fun _ _ => rfl)) pa_nil)) pa_nil))))
      (pss_one (ps_ret (Rr.pe_knR T.mk_Rewrite F_Rewrite hr_Rewrite T.g_Rewrite (Rr.passW (takes_of rfl rfl rfl rfl)) (pa_cons (pv 18) (pa_cons (pv 19) (pa_cons (pv 6) (pa_cons (pv 7) (pa_cons (pv 8) pa_nil))))) (pk_cons (pv 9) (pk_cons (pv 10) (pk_cons (pv 11) (pk_cons (pv 12) pk_nil))))))))))))))))))))))), ?_⟩
    obtain ⟨ht, G, kErr, kOk⟩ := h
    generalize hrows : rowsOf t = rows at G kErr kOk
    have err : ∀ {G' : Hp} {r : Addr}, H r = none → Exr r H G' → ∀ ln w, readR rows = .error (ln, w) → RaiseXr r (C_BadText K) (errF ln w) G' E := fun {G' r} hr e ln w h H' d e' hd hn h' => kErr ln w h H' d (Exr.toEx (Ex.refl H) hr (e.trans e')) (e.fresh hd hn) h'
    refine q_asgG (call_kR (vs := [.str t]) (ea_cons (ev_var rfl) ea_nil) fun H1 r dx e1 hr1 hdx hne => ⟨r, t, dx, rfl, upd_same, ht, fun l H2 e2 R => ⟨rfl, ?_⟩⟩)
    rw [hrows] at R
    have hr : H r = none := fresh_back e1 hr1
    have E2 : Exr r H H2 := (Exr.upd (Ex.toR (r := r) (e1.trans (Ex.new hdx)))).trans e2
    clear e2 hr1 hdx hne e1 H1
    have hR : readR rows = thenR (fixedR rows 0 "stop" ["n"]) fun _ => readR1 rows := rfl
    -- stop
    refine q_asgIx (call_mR (ev_var rfl) R.ob rfl (ea_cons ev_c (ea_cons ev_c ea_nil)) fun H3 e3 => fixed_call T (ks := ["n"]) (R.ex e3) G (by decide) (by decide) (by decide) ⟨fun ln w hx => err hr (E2.trans (Ex.toR e3)) ln w (errR hR hx), fun ws hx v H4 e4 h4 rep => ?_⟩)
    replace hR := okR hR hx
    have R4 := (R.ex e3).exr e4 h4
    have E4 := (E2.trans (Ex.toR e3)).trans e4
    obtain ⟨p, rfl, hp⟩ := rep
    obtain ⟨w1, hw1, hf1⟩ := (bad_none (fixedR_ok hx).2).2 1 "n" rfl
    rw [fits_n] at hf1
    refine ⟨p, _, 1, _, rfl, rfl, sq_of hp, atI_map (i := 1) hw1, w1, numOf w1, rfl, num_of (isNum_dig hf1).1 (by have := (isNum_dig hf1).2.1; omega) (isNum_dig hf1).2.2, by have := (isNum_dig hf1).2.1; omega, ?_⟩
    generalize numOf w1 = stop
    clear hf1 hw1 w1 hp p hx h4 e4 e3 R E2
    -- forms
    refine q_asgT (call_R (ea_cons (ev_var rfl) ea_nil) fun H6 e6 => ⟨r, dx, l, rows, 1, rfl, R4.ex e6, G, ⟨fun ln w hx => err hr (E4.trans (Ex.toR e6)) ln w (errR hR hx), fun n bf hx v H7 e7 h7 rep => ?_⟩⟩)
    replace hR := okR hR hx
    have R7 := (R4.ex e6).exr e7 h7
    have E7 := (E4.trans (Ex.toR e6)).trans e7
    obtain ⟨tt, D1, D2, as, rfl, ht7, d1, d2, hal, hft, hbl⟩ := rep
    refine ⟨tt, [.ref D1, .ref D2], rfl, st_of ht7, rfl, _, _, rfl, _, _, rfl, rfl, ?_⟩
    have hR : readR rows = thenR (fixedR rows n "layout" ["n", "n"]) fun _ => readR3 rows (n + 1) := hR
    clear ht7 hx h7 e7 R4 E4 e6
    -- layout
    refine q_asgG (call_mR (ev_var rfl) R7.ob rfl (ea_cons ev_c (ea_cons ev_c (ea_cons ev_c ea_nil))) fun H8 e8 => fixed_call T (ks := ["n", "n"]) (R7.ex e8) G (by decide) (by decide) (by decide) ⟨fun ln w hx => err hr (E7.trans (Ex.toR e8)) ln w (errR hR hx), fun ws hx v H9 e9 h9 rep => ?_⟩)
    replace hR := okR hR hx
    have R9 := (R7.ex e8).exr e9 h9
    have E9 := (E7.trans (Ex.toR e8)).trans e9
    have keep : ∀ {Ga Gb : Hp} {m : Nat} {a : Addr} {o : HO}, RdAt K Ga r dx l rows m → Exr r Ga Gb → (∀ C dx fs, o ≠ .ins C dx fs) → Ga a = some o → Gb a = some o := fun {Ga Gb m a o} R e hno h => e a o (fun z => by rw [z, R.ob] at h; injection h with h; exact hno _ _ _ h.symm) h
    have d1 := keep R7 ((Ex.toR e8).trans e9) (by simp) d1
    have d2 := keep R7 ((Ex.toR e8).trans e9) (by simp) d2
    have ft9 : FormTs as H9 := fun a ha => by
      obtain ⟨s, z, i, h1, h2, h3⟩ := hft a ha
      exact ⟨s, z, i, keep R7 ((Ex.toR e8).trans e9) (by simp) h1, h2, h3⟩
    obtain ⟨ps, rfl, hps⟩ := rep
    obtain ⟨w1, hw1, hf1⟩ := (bad_none (fixedR_ok hx).2).2 1 "n" rfl
    obtain ⟨w2, hw2, hf2⟩ := (bad_none (fixedR_ok hx).2).2 2 "n" rfl
    rw [fits_n] at hf1 hf2
    have hR : readR rows = thenR (numbersR rows (n + 1) "old" 1 false) fun _ => readR4 rows (n + 1 + 1) := hR
    clear hx h9 e9 R7 E7 e8 hft
    -- old
    refine q_asgG (call_mR (ev_var rfl) R9.ob rfl (ea_cons ev_c (ea_cons ev_c (ea_cons ev_c ea_nil))) fun H10 e10 => ⟨r, "old", 1, false, dx, l, rows, n + 1, rfl, R9.ex e10, G, ⟨fun ln w hx => err hr (E9.trans (Ex.toR e10)) ln w (errR hR hx), fun os hx v H11 e11 h11 rep => ?_⟩⟩)
    replace hR := okR hR hx
    have los := numbersR_len G hx
    have e911 := (Ex.toR (r := r) e10).trans e11
    have R11 := R9.exr e911 h11
    have E11 := E9.trans e911
    have d1 := keep R9 e911 (by simp) d1
    have d2 := keep R9 e911 (by simp) d2
    have hps := keep R9 e911 (by simp) hps
    have ft11 : FormTs as H11 := fun a ha => by
      obtain ⟨s, z, i, h1, h2, h3⟩ := ft9 a ha
      exact ⟨s, z, i, keep R9 e911 (by simp) h1, h2, h3⟩
    obtain ⟨po, rfl, hpo⟩ := rep
    have hR : readR rows = thenR (numbersR rows (n + 1 + 1) "new" 1 false) fun _ => readR5 rows (n + 1 + 1 + 1) := hR
    clear hx h11 e11 E9 e10 ft9 e911
    -- new
    refine q_asgG (call_mR (ev_var rfl) R11.ob rfl (ea_cons ev_c (ea_cons ev_c (ea_cons ev_c ea_nil))) fun H12 e12 => ⟨r, "new", 1, false, dx, l, rows, n + 1 + 1, rfl, R11.ex e12, G, ⟨fun ln w hx => err hr (E11.trans (Ex.toR e12)) ln w (errR hR hx), fun ns hx v H13 e13 h13 rep => ?_⟩⟩)
    replace hR := okR hR hx
    have lns := numbersR_len G hx
    have e1113 := (Ex.toR (r := r) e12).trans e13
    have R13 := R11.exr e1113 h13
    have E13 := E11.trans e1113
    have d1 := keep R11 e1113 (by simp) d1
    have d2 := keep R11 e1113 (by simp) d2
    have hps := keep R11 e1113 (by simp) hps
    have hpo := keep R11 e1113 (by simp) hpo
    have ft13 : FormTs as H13 := fun a ha => by
      obtain ⟨s, z, i, h1, h2, h3⟩ := ft11 a ha
      exact ⟨s, z, i, keep R11 e1113 (by simp) h1, h2, h3⟩
    obtain ⟨pn, rfl, hpn⟩ := rep
    have hR : readR rows = thenR (numbersR rows (n + 1 + 1 + 1) "entries" 1 true) fun _ => tailR2 rows (n + 1 + 1 + 1 + 1) := hR
    clear hx h13 e13 E11 e12 ft11 e1113
    -- entries
    refine q_asgG (call_mR (ev_var rfl) R13.ob rfl (ea_cons ev_c (ea_cons ev_c (ea_cons ev_c ea_nil))) fun H14 e14 => ⟨r, "entries", 1, true, dx, l, rows, n + 1 + 1 + 1, rfl, R13.ex e14, G, ⟨fun ln w hx => err hr (E13.trans (Ex.toR e14)) ln w (errR hR hx), fun es hx v H15 e15 h15 rep => ?_⟩⟩)
    replace hR := okR hR hx
    have les := numbersR_len G hx
    have e1315 := (Ex.toR (r := r) e14).trans e15
    have R15 := R13.exr e1315 h15
    have E15 := E13.trans e1315
    have d1 := keep R13 e1315 (by simp) d1
    have d2 := keep R13 e1315 (by simp) d2
    have hps := keep R13 e1315 (by simp) hps
    have hpo := keep R13 e1315 (by simp) hpo
    have hpn := keep R13 e1315 (by simp) hpn
    have ft15 : FormTs as H15 := fun a ha => by
      obtain ⟨s, z, i, h1, h2, h3⟩ := ft13 a ha
      exact ⟨s, z, i, keep R13 e1315 (by simp) h1, h2, h3⟩
    obtain ⟨pe, rfl, hpe⟩ := rep
    generalize n + 1 + 1 + 1 + 1 = n2 at hR R15
    clear hx h15 e15 E13 e14 ft13 e1315 R13 R11 R9
    have eb : ∀ {G' : Hp} {m : Nat} {wd : Str} {σ : L2.St}, σ[1]? = some (some (V.ref r)) → RdAt K G' r dx l rows m → EvT (tB (Rr.tMR (C_Reader K) "begins" (sp_Reader_begins K) (fun _ _ _ _ => False) (tVar 1) (tCons (tC (.str wd)) tNil))) σ G' (begins rows m wd) := fun hσ Rm => et_B (ev_mR (ev_var hσ) Rm.ob rfl (ea_cons ev_c ea_nil) fun H1 e Q q E => ⟨r, _, dx, l, rows, _, rfl, Rm.ex e, G, q⟩)
    -- standing
    refine q_cut (M := fun σ' G' => ∃ (ps' : Addr) (ss : List Int) (n3 : Nat), σ' = [some (.str t), some (.ref r), some (.int stop), some (.ref D1), some (.ref D2), some (.ref ps), some (.ref po), some (.ref pn), some (.ref pe), some (.ref ps'), none, none, none, none, none, none, none, none, none, none] ∧ Exr r H15 G' ∧ RdAt K G' r dx l rows n3 ∧ G' ps' = some (.lst (ss.map V.int)) ∧ ss.length ≤ 30 ∧ readR rows = tailR3 rows n3) ?_ fun σ' G16 hM => ?_
    · refine s_asgIf (b := begins rows n2 "standing") (eb rfl R15) (fun hb H16 e16 => ?_) (fun hb H16 e16 => ?_)
      · have hR : readR rows = thenR (numbersR rows n2 "standing" 1 true) fun _ => tailR3 rows (n2 + 1) := by rw [hR]; unfold tailR2; rw [if_pos hb]
        refine call_mR (ev_var rfl) (R15.ex e16).ob rfl (ea_cons ev_c (ea_cons ev_c (ea_cons ev_c ea_nil))) fun H17 e17 => ⟨r, "standing", 1, true, dx, l, rows, n2, rfl, (R15.ex e16).ex e17, G, ⟨fun ln w hx => err hr (E15.trans (Ex.toR (e16.trans e17))) ln w (errR hR hx), fun ss hx v H18 e18 h18 rep => ?_⟩⟩
        obtain ⟨q, rfl, hq⟩ := rep
        exact ⟨q, ss, n2 + 1, rfl, (Ex.toR (e16.trans e17)).trans e18, (R15.ex (e16.trans e17)).exr e18 h18, hq, numbersR_len G hx, by have h := okR hR hx; exact h⟩
      · refine (el_lst ea_nil (by simp)) H16 (Ex.refl _) _ fun q H17 _ e17 hq => ⟨q, [], n2, rfl, Ex.toR (e16.trans e17), R15.ex (e16.trans e17), hq, by simp, ?_⟩
        rw [hR]; unfold tailR2; rw [if_neg (by simp [hb])]
    obtain ⟨ps', ss, n3, rfl, e1516, R16, hps', lss, hR⟩ := hM
    have E16 := E15.trans e1516
    have d1 := keep R15 e1516 (by simp) d1
    have d2 := keep R15 e1516 (by simp) d2
    have hps := keep R15 e1516 (by simp) hps
    have hpo := keep R15 e1516 (by simp) hpo
    have hpn := keep R15 e1516 (by simp) hpn
    have hpe := keep R15 e1516 (by simp) hpe
    have ft16 : FormTs as G16 := fun a ha => by
      obtain ⟨s, z, i, h1, h2, h3⟩ := ft15 a ha
      exact ⟨s, z, i, keep R15 e1516 (by simp) h1, h2, h3⟩
    clear ft15 e1516 R15 E15
    -- crossings
    refine q_cut (M := fun σ' G' => ∃ (cv : V) (n4 : Nat), σ' = [some (.str t), some (.ref r), some (.int stop), some (.ref D1), some (.ref D2), some (.ref ps), some (.ref po), some (.ref pn), some (.ref pe), some (.ref ps'), some cv, none, none, none, none, none, none, none, none, none] ∧ Exr r G16 G' ∧ RdAt K G' r dx l rows n4 ∧ (cv = .non ∨ ∃ (q : Addr) (cs : List Int), cv = .ref q ∧ G' q = some (.lst (cs.map V.int)) ∧ cs.length ≤ 30) ∧ readR rows = tailR4 rows n4) ?_ fun σ' G17 hM => ?_
    · refine s_asgIf (b := begins rows n3 "crossings") (eb rfl R16) (fun hb H16 e16 => ?_) (fun hb H16 e16 => ?_)
      · have hR : readR rows = thenR (numbersR rows n3 "crossings" 0 true) fun _ => tailR4 rows (n3 + 1) := by rw [hR]; unfold tailR3; rw [if_pos hb]
        refine call_mR (ev_var rfl) (R16.ex e16).ob rfl (ea_cons ev_c (ea_cons ev_c (ea_cons ev_c ea_nil))) fun H17 e17 => ⟨r, "crossings", 0, true, dx, l, rows, n3, rfl, (R16.ex e16).ex e17, G, ⟨fun ln w hx => err hr (E16.trans (Ex.toR (e16.trans e17))) ln w (errR hR hx), fun cs hx v H18 e18 h18 rep => ?_⟩⟩
        obtain ⟨q, rfl, hq⟩ := rep
        exact ⟨.ref q, n3 + 1, rfl, (Ex.toR (e16.trans e17)).trans e18, (R16.ex (e16.trans e17)).exr e18 h18, .inr ⟨q, cs, rfl, hq, numbersR_len G hx⟩, by have h := okR hR hx; exact h⟩
      · refine ev_c H16 (Ex.refl _) _ fun H17 e17 => ⟨.non, n3, rfl, Ex.toR (e16.trans e17), R16.ex (e16.trans e17), .inl rfl, ?_⟩
        rw [hR]; unfold tailR3; rw [if_neg (by simp [hb])]
    obtain ⟨cv, n4, rfl, e1617, R17, hcv, hR⟩ := hM
    have E17 := E16.trans e1617
    have d1 := keep R16 e1617 (by simp) d1
    have d2 := keep R16 e1617 (by simp) d2
    have hps := keep R16 e1617 (by simp) hps
    have hpo := keep R16 e1617 (by simp) hpo
    have hpn := keep R16 e1617 (by simp) hpn
    have hpe := keep R16 e1617 (by simp) hpe
    have hps' := keep R16 e1617 (by simp) hps'
    have ft17 : FormTs as G17 := fun a ha => by
      obtain ⟨s, z, i, h1, h2, h3⟩ := ft16 a ha
      exact ⟨s, z, i, keep R16 e1617 (by simp) h1, h2, h3⟩
    clear ft16 e1617 R16 E16
    have hR : readR rows = thenR (ansR rows (rows.length + 1) n4 []) fun p => tailR5 rows p.1 := hR
    -- answers
    refine q_asgG (call_R (ea_cons (ev_var rfl) ea_nil) fun H18 e18 => ⟨r, dx, l, rows, n4, rfl, R17.ex e18, G, ⟨fun ln w hx => err hr (E17.trans (Ex.toR e18)) ln w (errR hR hx), fun n5 _ hx v H19 e19 h19 rep => ?_⟩⟩)
    have hR : readR rows = thenR (strR rows (rows.length + 1) n5) fun q => endR rows q.1 := by have h := okR hR hx; exact h
    have e1719 := (Ex.toR (r := r) e18).trans e19
    have R19 := R17.exr e1719 h19
    have E19 := E17.trans e1719
    have d1 := keep R17 e1719 (by simp) d1
    have d2 := keep R17 e1719 (by simp) d2
    have hps := keep R17 e1719 (by simp) hps
    have hpo := keep R17 e1719 (by simp) hpo
    have hpn := keep R17 e1719 (by simp) hpn
    have hpe := keep R17 e1719 (by simp) hpe
    have hps' := keep R17 e1719 (by simp) hps'
    have hcv : cv = .non ∨ ∃ (q : Addr) (cs : List Int), cv = .ref q ∧ H19 q = some (.lst (cs.map V.int)) ∧ cs.length ≤ 30 := hcv.imp id fun ⟨q, cs, h1, h2, h3⟩ => ⟨q, cs, h1, keep R17 e1719 (by simp) h2, h3⟩
    have ft19 : FormTs as H19 := fun a ha => by
      obtain ⟨s, z, i, h1, h2, h3⟩ := ft17 a ha
      exact ⟨s, z, i, keep R17 e1719 (by simp) h1, h2, h3⟩
    obtain ⟨Da, akvs, rfl, hda, hans, lak⟩ := rep
    clear hx ft17 e1719 R17 E17 h19 e19 e18
    -- stretches
    refine q_asgG (call_R (ea_cons (ev_var rfl) ea_nil) fun H20 e20 => ⟨r, dx, l, rows, n5, rfl, R19.ex e20, G, ⟨fun ln w hx => err hr (E19.trans (Ex.toR e20)) ln w (errR hR hx), fun n6 _ hx v H21 e21 h21 rep => ?_⟩⟩)
    have hR : readR rows = endR rows n6 := by have h := okR hR hx; exact h
    have e1921 := (Ex.toR (r := r) e20).trans e21
    have R21 := R19.exr e1921 h21
    have E21 := E19.trans e1921
    have d1 := keep R19 e1921 (by simp) d1
    have d2 := keep R19 e1921 (by simp) d2
    have hps := keep R19 e1921 (by simp) hps
    have hpo := keep R19 e1921 (by simp) hpo
    have hpn := keep R19 e1921 (by simp) hpn
    have hpe := keep R19 e1921 (by simp) hpe
    have hps' := keep R19 e1921 (by simp) hps'
    have hda := keep R19 e1921 (by simp) hda
    have hcv : cv = .non ∨ ∃ (q : Addr) (cs : List Int), cv = .ref q ∧ H21 q = some (.lst (cs.map V.int)) ∧ cs.length ≤ 30 := hcv.imp id fun ⟨q, cs, h1, h2, h3⟩ => ⟨q, cs, h1, keep R19 e1921 (by simp) h2, h3⟩
    have ft21 : FormTs as H21 := fun a ha => by
      obtain ⟨s, z, i, h1, h2, h3⟩ := ft19 a ha
      exact ⟨s, z, i, keep R19 e1921 (by simp) h1, h2, h3⟩
    obtain ⟨Ds, sas, rfl, hds, hpr, lsa⟩ := rep
    clear hx ft19 e1921 R19 E19 h21 e21 e20
    -- the end
    refine q_dropG (call_mR (ev_var rfl) R21.ob rfl ea_nil fun H22 e22 => ⟨r, dx, l, rows, n6, rfl, R21.ex e22, fun hlt => (err hr (E21.trans (Ex.toR e22)) n6 0 (by rw [hR]; unfold endR; rw [if_pos hlt])).plain (R21.ex e22).ob, fun hge H23 e23 => ?_⟩)
    obtain ⟨kW, kQ⟩ := kOk (by rw [hR]; unfold endR; rw [if_neg hge])
    have e2123 := e22.trans e23
    have EH : Ex H H23 := Exr.toEx (Ex.refl H) hr (E21.trans (Ex.toR e2123))
    have d1 := e2123 _ _ d1
    have d2 := e2123 _ _ d2
    have hps := e2123 _ _ hps
    have hpo := e2123 _ _ hpo
    have hpn := e2123 _ _ hpn
    have hpe := e2123 _ _ hpe
    have hps' := e2123 _ _ hps'
    have hda := e2123 _ _ hda
    have hds := e2123 _ _ hds
    have hpr := hpr.ex e2123
    have hcv : cv = .non ∨ ∃ (q : Addr) (cs : List Int), cv = .ref q ∧ H23 q = some (.lst (cs.map V.int)) ∧ cs.length ≤ 30 := hcv.imp id fun ⟨q, cs, h1, h2, h3⟩ => ⟨q, cs, h1, e2123 _ _ h2, h3⟩
    have ft23 : FormTs as H23 := fun a ha => by
      obtain ⟨s, z, i, h1, h2, h3⟩ := ft21 a ha
      exact ⟨s, z, i, e2123 _ _ h1, h2, h3⟩
    clear ft21 e2123 e22 e23 R21 E21 hR kErr kOk err eb keep
    -- forms
    have madeE : ∀ {Ga Gb : Hp} {f fd C : Addr}, Ga f = none → Ga fd = none → fd ≠ f → ExS (oneA f) (upd (upd Ga fd (.own f)) f (.ins C fd [])) Gb → Ex Ga Gb := fun {Ga Gb f fd C} hf hfd hne e =>
      ((Ex.toS (S := oneA f) ((Ex.new hfd).trans (Ex.new (by rw [upd_ne (Ne.symm hne)]; exact hf)))).trans e).toEx fun a (h : a = f) => by rw [h]; exact hf
    have madeN : ∀ {Ga : Hp} {f fd C : Addr}, Ga f = none → Ga fd = none → fd ≠ f → Ex Ga (upd (upd Ga fd (.own f)) f (.ins C fd [])) := fun {Ga f fd C} hf hfd hne => (Ex.new hfd).trans (Ex.new (by rw [upd_ne (Ne.symm hne)]; exact hf))
    refine q_asgD ed_new fun D H24 hD e24 hd => ?_
    refine q_seq (s_forZ (bf := bf) (as := as) (ea_cons (ev_var rfl) (ea_cons (ev_var rfl) ea_nil)) hal (fun i σ' H' => Ex H23 H' ∧ (∃ kvs : List (Key × V), H' D = some (.dK kvs) ∧ FormKV K H' kvs ∧ kvs.length ≤ i) ∧ ∃ w1 w2 w3 w4, σ' = [some (.str t), some (.ref r), some (.int stop), some (.ref D1), some (.ref D2), some (.ref ps), some (.ref po), some (.ref pn), some (.ref pe), some (.ref ps'), some cv, some (.ref Da), some (.ref Ds), some (.ref D), w1, w2, w3, w4, none, none])
      (fun H25 e25 => ⟨e24.trans e25, ⟨[], e25 _ _ hd, (fun q hq => by cases hq), Nat.le_refl _⟩, none, none, none, none, rfl⟩) (fun i σ' H' hP => ?_) (fun i x s n z σ' H' hi hP hsl H25 e25 => ?_) (fun σ' H' hP => ?_))
    · obtain ⟨e, _, _⟩ := hP
      refine ⟨e _ _ d1, e _ _ d2, fun a ha => ?_⟩
      obtain ⟨s, z, i, h1, h2, h3⟩ := ft23 a ha
      exact ⟨s, z, i, e _ _ h1, h2, h3⟩
    · obtain ⟨e, ⟨kvs, hk1, hk2, hk3⟩, w1, w2, w3, w4, rfl⟩ := hP
      dsimp only [List.set]
      have eH := EH.trans (e.trans e25)
      refine s_dputV (call_kR (vs := [.str s, .int n, .str z]) (ea_cons (ev_var rfl) (ea_cons (ev_var rfl) (ea_cons (ev_var rfl) ea_nil))) fun H26 f fd e26 hf hfd hne => ⟨f, s, n, z, fd, rfl, by rw [sizeLine_eq]; omega, upd_same, kW.mono (Ex.toS ((eH.trans e26).trans (madeN hf hfd hne))) (fun a (h : a = f) => .inr (by rw [h]; exact fresh_back (eH.trans e26) hf)), fun H27 o e27 ho hform => ?_⟩)
      have e67 := madeE hf hfd hne e27
      have e57 := (e25.trans e26).trans e67
      have hD27 := e57 _ _ hk1
      refine ⟨rfl, .ref D, rfl, .int x, rfl, D, _, rfl, DPut.k (k := .inl x) hD27 (by rw [sizeLine_eq]; omega), ?_⟩
      refine ⟨Ex.mut (e.trans e57) hD, ⟨_, upd_same, fun q hq => ?_, ?_⟩, _, _, _, _, rfl⟩
      · rcases mem_putK hq with hq | rfl
        · obtain ⟨i, a, o, h1, h2, h3, h4⟩ := hk2 q hq
          have h4' := h4
          obtain ⟨_, _, _, _, ho, _⟩ := h4'
          refine ⟨i, a, o, h1, h2, ?_, h4⟩
          rw [upd_ne (ne_of (e57 _ _ h3) hD27 (by rw [ho]; simp))]
          exact e57 _ _ h3
        · have hform' := hform
          obtain ⟨_, _, _, _, ho2, _⟩ := hform'
          refine ⟨x, f, o, rfl, rfl, ?_, hform⟩
          rw [upd_ne (ne_of ho hD27 (by rw [ho2]; simp))]
          exact ho
      · have := len_putK (kvs := kvs) (k := .inl x) (v := .ref f)
        omega
    · obtain ⟨e, ⟨kvs, hk1, hk2, hk3⟩, w1, w2, w3, w4, rfl⟩ := hP
      have eH := EH.trans e
      -- codes
      refine q_asgG (call_kR (vs := [.int stop, .ref D]) (ea_cons (ev_var rfl) (ea_cons (ev_var rfl) ea_nil)) fun H26 c cd e26 hc hcd hne => ⟨c, stop, D, cd, kvs, rfl, upd_same, ((e26.trans (madeN hc hcd hne)) _ _ hk1), hk2.ex (e26.trans (madeN hc hcd hne)), by omega, kW.mono (Ex.toS ((eH.trans e26).trans (madeN hc hcd hne))) (fun a h => .inr ?_), fun H27 o tb ks tkvs e27 C => ⟨rfl, ?_⟩⟩)
      · rcases h with h | h
        · rw [h]; exact fresh_back (eH.trans e26) hc
        · rw [h]; exact fresh_back EH hD
      have eH27 := eH.trans (e26.trans (madeE hc hcd hne e27))
      have e27 := e.trans (e26.trans (madeE hc hcd hne e27))
      -- layout
      refine q_asgG (call_kR (ea_cons (ev_tInt rfl (e27 _ _ hps) hw1 hf1) (ea_cons (ev_tInt rfl (e27 _ _ hps) hw2 hf2) ea_nil)) fun H28 lay ld e28 hl hld hne => ⟨lay, _, _, ld, rfl, upd_same, kW.mono (Ex.toS ((eH27.trans e28).trans (madeN hl hld hne))) (fun a (h : a = lay) => .inr (by rw [h]; exact fresh_back (eH27.trans e28) hl)), fun H29 e29 hlay => ⟨rfl, ?_⟩⟩)
      have e79 := e28.trans (madeE hl hld hne e29)
      have eH29 := eH27.trans e79
      have e29 := e27.trans e79
      have C29 := C.ex e79
      refine s_retG (call_knR (vs := [.ref c, .ref lay, .ref po, .ref pn, .ref pe]) (zs := [.ref ps', cv, .ref Da, .ref Ds]) (ea_cons (ev_var rfl) (ea_cons (ev_var rfl) (ea_cons (ev_var rfl) (ea_cons (ev_var rfl) (ea_cons (ev_var rfl) ea_nil))))) (ea_cons (ev_var rfl) (ea_cons (ev_var rfl) (ea_cons (ev_var rfl) (ea_cons (ev_var rfl) ea_nil)))) rfl rfl fun H30 x dx e30 hx hdx hne => ?_)
      have eN := e30.trans (madeN (C := C_Rewrite K) hx hdx hne)
      have E := e29.trans eN
      refine ⟨x, c, lay, po, pn, pe, ps', Da, Ds, cv, dx, os, ns, es, ss, akvs, sas, rfl, upd_same, ?_, kW.mono (Ex.toS (eH29.trans eN)) (fun a (h : a = x) => .inr (by rw [h]; exact fresh_back (eH29.trans e30) hx)), fun H31 e31 => ⟨rfl, kQ _ _ (eH29.trans (e30.trans (madeE hx hdx hne e31)))⟩⟩
      exact { co := ⟨_, _, _, _, _, _, C29.ex eN⟩, ly := ⟨_, _, _, eN _ _ hlay⟩, o := E _ _ hpo, n := E _ _ hpn, e := E _ _ hpe, s := E _ _ hps', cr := hcv.imp id fun ⟨q, cs, h1, h2, h3⟩ => ⟨q, cs, h1, E _ _ h2, by omega⟩, an := E _ _ hda, ans := hans, st := E _ _ hds, sts := hpr.ex E, lo := by omega, le := les, ls := lss, lk := lak, lst := lsa }
open PySem PySem.Spec PyProof.Rows L2 Evl Hb TL
def bagK (c : Addr) (a r s : Int) : List (Key × V) := [(.inr "cells", .ref c), (.inr "at", .int a), (.inr "rest", .int r), (.inr "state", .int s)]
theorem bag_at {c : Addr} {a r s z : Int} : putK (bagK c a r s) (.inr "at") (.int z) = bagK c z r s := rfl
theorem bag_rest {c : Addr} {a r s z : Int} : putK (bagK c a r s) (.inr "rest") (.int z) = bagK c a z s := rfl
theorem bag_state {c : Addr} {a r s z : Int} : putK (bagK c a r s) (.inr "state") (.int z) = bagK c a r z := rfl
theorem get_cells {c : Addr} {a r s : Int} : valV (bagK c a r s) (.inr "cells") = some (.ref c) := rfl
theorem get_at {c : Addr} {a r s : Int} : valV (bagK c a r s) (.inr "at") = some (.int a) := rfl
theorem get_rest {c : Addr} {a r s : Int} : valV (bagK c a r s) (.inr "rest") = some (.int r) := rfl
theorem get_state {c : Addr} {a r s : Int} : valV (bagK c a r s) (.inr "state") = some (.int s) := rfl
structure BagAt (H : Hp) (b c : Addr) (cells : List Int) (a r s : Int) : Prop where
  ob : H b = some (.dK (bagK c a r s))
  ce : H c = some (.lst (cells.map V.int))
  le : cells.length ≤ 63
  a0 : 0 ≤ a
  a1 : a ≤ cells.length
  r0 : 0 ≤ r
  s0 : 0 ≤ s
  s1 : s < 2147483647
theorem el_listL {K : PySem.W.Frag} {te : TE} {σ : L2.St} {H : Hp} {xs : List V} (h : EvL te σ H xs) : EvL (tCB (rListS K) (tCons te tNil)) σ H xs := fun H1 e Q q => h H1 e _ fun p H2 _ e2 h2 => ⟨p, xs, rfl, .inl (sq_of h2), fun l hl => q l _ (fresh_back e2 hl) (e2.trans (Ex.new hl)) upd_same⟩
def sp_bag (K : PySem.W.Frag) : Sp := fun vs H Q _ => ∃ (p : Addr) (sc : List Int), vs = [.ref p] ∧ SqL K H p (sc.map V.int) ∧ ∀ b H2 c cells a r s, Ex H H2 → H b = none → BagAt H2 b c cells a r s → Q (.ref b) H2
theorem ok__law_bag {P : Program} {w : World} {K : PySem.W.Frag} {mg : Str → Option Value} {base : Heap} (T : Txt P K mg) : FnR P w K mg base (CX0) 1 (f__law_bag K) (sp_bag K) := by
  obtain ⟨fd, F⟩ := T.F__law_bag
  refine Rr.fnR_ok (F.ok sc__law_bag (fun vs H Q E h => ?_) (fun cdv A outer s H vs Q E hr h => ?_)) (F.bindsN fun _ _ _ _ _ _ us hl => match us, hl with | [_], _ => rfl)
  · obtain ⟨p, sc, rfl, _⟩ := h
    rfl
  · obtain ⟨p, sc, rfl, h⟩ := h
    refine ⟨_, PSs.nox (pss_cons (ps_set (i := 1) sc__law_bag.nd rfl (Or.inl rfl) pe_int)
      (pss_cons (ps_for PassesOwn.never rfl (pi_list (pe_slice sl_list (pv 0) po_none (po_some pe_int))) (pg_name (i := 2) sc__law_bag.nd rfl (Or.inl rfl)) (pss_one (ps_set (i := 1) sc__law_bag.nd rfl (Or.inl rfl) (pe_op op_mod (pe_callTy call_int1 rfl T.b_int (by decide +kernel) (pa_cons (pe_op op_add (pe_op op_add (pe_op op_mul (pv 1) pe_int) (pe_op op_mod (pe_callB call_abs rfl T.b_abs (by decide +kernel) (pa_cons (pv 2) pa_nil)) pe_int)) pe_int) pa_nil)) pe_int))))
      (pss_one (ps_ret (pe_disp (pps_cons pe_str (pe_callTy call_list_of rfl T.b_list (by decide +kernel) (pa_cons (pe_slice sl_list (pv 0) po_none (po_some pe_int)) pa_nil)) (pps_cons pe_str pe_int (pps_cons pe_str pe_int (pps_cons pe_str (pv 1) pps_nil)))) (by rfl) (by rfl) (fun z => by cases z) (by decide)))))), ?_⟩
    obtain ⟨hp, k⟩ := h
    have hcut : cutV (sc.map V.int) none (some 63) = (sc.take 63).map V.int := by
      have h := cut_to (sc.map V.int) 63
      rw [← List.map_take] at h
      exact h
    refine q_asg ev_c fun H1 e1 => ?_
    refine q_forI (ei_nl (xs := (sc.take 63).map V.int) (by rw [← hcut]; exact el_sl (ev_var rfl) eo_none (eo_some ev_c) (ex_l e1 hp))) (fun H1 i σ' H' => Ex H1 H' ∧ ∃ (s : Int) (wv : Option V), 0 ≤ s ∧ s < 2147483647 ∧ σ' = [some (V.ref p), some (.int s), wv]) (fun _ _ _ _ h => h.1) (fun H2 e2 => ⟨Ex.refl _, 7, none, by omega, by omega, rfl⟩) (fun H2 i y σ' H' e2 hy hP => ?_) (fun H2 σ' H' e2 hP => ?_)
    · obtain ⟨e3, s, wv, h0, h1, rfl⟩ := hP
      rw [List.getElem?_map] at hy
      obtain ⟨c, _, rfl⟩ := Option.map_eq_some_iff.mp hy
      dsimp only [gName, List.set]
      refine s_asg (v := .int ((s * 69621 + (if c < 0 then -c else c) % 2147483629 + 11) % 2147483647)) (ev_op (ev_cb (ea_cons (ev_op (ev_op (ev_op (ev_var rfl) ev_c (rv_I (.inr (by constructor <;> omega)))) (ev_op (ev_cb (ea_cons (ev_var rfl) ea_nil) rc_abs) ev_c (rv_I (by decide))) rv_I0) ev_c rv_I0) ea_nil) rc_int_i) ev_c (rv_I (by decide))) fun H4 e4 => ⟨e3.trans e4, _, _, ?_, ?_, rfl⟩
      · exact Int.emod_nonneg _ (by decide)
      · exact Int.emod_lt_of_pos _ (by decide)
    · obtain ⟨e3, s, wv, h0, h1, rfl⟩ := hP
      have e13 := (e1.trans e2).trans e3
      show tRet (tDisp _) _ [some (V.ref p), some (.int s), wv] H'
      refine fun b hb => ?_
      have eb : Ex H' (upd H' b (.dK [])) := Ex.new hb
      refine ev_c (v := .str "cells") _ (Ex.refl _) _ fun H5 e5 => el_listL (el_sl (ev_var rfl) eo_none (eo_some ev_c) (ex_l (e13.trans eb) hp)) H5 e5 _ fun c H6 hc e6 h6 => ?_
      rw [hcut] at h6
      have e56 := e5.trans e6
      refine ⟨.int s, rfl, e56 _ _ upd_same, bagK c 0 0 s, rfl, by simp [bagK], ?_⟩
      have hcb : c ≠ b := fun z => by rw [z, e5 _ _ upd_same] at hc; cases hc
      refine k b _ c (sc.take 63) 0 0 s ?_ (fresh_back e13 hb) ⟨?_, ?_, ?_, by omega, by omega, by omega, h0, h1⟩
      · exact e13.trans (Ex.mut (fun a o h => e56 a o (eb a o h)) hb)
      · show upd H6 b (.dK (mergeK [] (bagK c 0 0 s))) b = _
        rw [upd_same]; rfl
      · rw [upd_ne hcb]; exact h6
      · rw [List.length_take]; omega
theorem BagAt.ex {H H' : Hp} {b c : Addr} {cells : List Int} {a r s : Int} (B : BagAt H b c cells a r s) (e : Ex H H') : BagAt H' b c cells a r s := ⟨e _ _ B.ob, e _ _ B.ce, B.le, B.a0, B.a1, B.r0, B.s0, B.s1⟩
theorem BagAt.put {H H1 : Hp} {b c : Addr} {cells : List Int} {a r s a' r' s' : Int} (B : BagAt H b c cells a r s) (e : Ex H H1) (h0 : 0 ≤ a') (h1 : a' ≤ cells.length) (h2 : 0 ≤ r') (h3 : 0 ≤ s') (h4 : s' < 2147483647) : BagAt (upd H1 b (.dK (bagK c a' r' s'))) b c cells a' r' s' :=
  ⟨upd_same, by rw [upd_ne (ne_of B.ce B.ob (by simp))]; exact e _ _ B.ce, B.le, h0, h1, h2, h3, h4⟩
theorem s_dputK {td ty tv : TE} {D : Ends} {σ : L2.St} {H : Hp} {d : Addr} {kvs : List (Key × V)} {key : Key} {v : V} (h : Ev tv σ H v) (ha : Ev td σ H (.ref d)) (hk : Ev ty σ H (kV key)) (hd : H d = some (.dK kvs)) (hz : kvs.length < sizeLine) (k : ∀ H1, Ex H H1 → D.nx σ (upd H1 d (.dK (putK kvs key v)))) : sDPut td ty tv D σ H :=
  h H (Ex.refl H) _ fun H1 e1 => ha H1 e1 _ fun H2 e2 => hk H2 (e1.trans e2) _ fun H3 e3 => ⟨d, _, rfl, DPut.k (((e1.trans e2).trans e3) _ _ hd) hz, k H3 ((e1.trans e2).trans e3)⟩
theorem q_dputK {td ty tv : TE} {D : Ends} {tz : TS} {σ : L2.St} {H : Hp} {d : Addr} {kvs : List (Key × V)} {key : Key} {v : V} (h : Ev tv σ H v) (ha : Ev td σ H (.ref d)) (hk : Ev ty σ H (kV key)) (hd : H d = some (.dK kvs)) (hz : kvs.length < sizeLine) (k : ∀ H1, Ex H H1 → tz D σ (upd H1 d (.dK (putK kvs key v)))) : tSeq (sDPut td ty tv) tz D σ H := s_dputK (D := { D with nx := tz D }) h ha hk hd hz k
theorem bag_sz {c : Addr} {a r s : Int} : (bagK c a r s).length < sizeLine := by rw [sizeLine_eq]; simp [bagK]
def sp_draw : Sp := fun vs H Q _ => ∃ (b : Addr) (m : Int) (c : Addr) (cells : List Int) (a r s : Int), vs = [.ref b, .int m] ∧ 0 < m ∧ m < 1073741824 ∧ BagAt H b c cells a r s ∧
  ∀ z H2 a' r' s', 0 ≤ z → z < m → ExS (oneA b) H H2 → BagAt H2 b c cells a' r' s' → Q (.int z) H2
theorem ok__law_draw {P : Program} {w : World} {K : PySem.W.Frag} {mg : Str → Option Value} {base : Heap} (T : Txt P K mg) : FnR P w K mg base (CX0) 1 (f__law_draw K) (sp_draw) := by
  obtain ⟨fd, F⟩ := T.F__law_draw
  refine Rr.fnR_ok (F.ok sc__law_draw (fun vs H Q E h => ?_) (fun cdv A outer s H vs Q E hr h => ?_)) (F.bindsN fun _ _ _ _ _ _ us hl => match us, hl with | [_, _], _ => rfl)
  · obtain ⟨b, m, c, cells, a, r, s, rfl, _⟩ := h
    rfl
  · obtain ⟨b, m, c, cells, a, r, s, rfl, h⟩ := h
    have hu := hu_of hr
    refine ⟨_, PSs.nox (pss_cons (ps_while PassesOwn.never (PW.pt (pw_and (pt_cmpR op_lt (pe_dget (by exact hu) (pv 0) pe_str (fun _ _ => rfl)) pe_int (nomark _)) (pw_and1 (pt_cmpR op_lt (pe_dget (by exact hu) (pv 0) pe_str (fun _ _ => rfl)) (pe_callB call_len_seq rfl T.b_len (by decide +kernel) (pa_cons (pe_dget (by exact hu) (pv 0) pe_str (fun _ _ => rfl)) pa_nil)) (nomark _))))) (pss_cons (ps_set (i := 2) sc__law_draw.nd rfl (Or.inl rfl) (pe_callB call_abs rfl T.b_abs (by decide +kernel) (pa_cons (pe_ix ix_list (pe_dget (by exact hu) (pv 0) pe_str (fun _ _ => rfl)) (pe_dget (by exact hu) (pv 0) pe_str (fun _ _ => rfl)) (fun _ _ => rfl)) pa_nil)))
      (pss_cons (ps_dput (by exact hu) (pv 0) pe_str (pe_op op_add (pe_dget (by exact hu) (pv 0) pe_str (fun _ _ => rfl)) pe_int) rfl)
      (pss_cons (ps_if (pt_cmpR op_lt (pv 2) (pe_op op_pow pe_int pe_int) (nomark _)) (pss_cons (ps_set (i := 3) sc__law_draw.nd rfl (Or.inl rfl) (pe_op op_mod (pe_callTy call_int1 rfl T.b_int (by decide +kernel) (pa_cons (pe_op op_add (pe_op op_pow (pe_op op_add (pv 2) pe_int) pe_int) (pe_op op_mul (pe_dget (by exact hu) (pv 0) pe_str (fun _ _ => rfl)) (pe_op op_add (pe_dget (by exact hu) (pv 0) pe_str (fun _ _ => rfl)) pe_int))) pa_nil)) pe_int))
      (pss_one (ps_ret (pe_op op_mod (pv 3) (pv 1))))) pss_nil)
      (pss_one (ps_dput (by exact hu) (pv 0) pe_str (pv 2) rfl))))))
      (pss_cons (ps_if (pt_cmpR op_ge (pe_dget (by exact hu) (pv 0) pe_str (fun _ _ => rfl)) pe_int (nomark _)) (pss_cons (ps_set (i := 4) sc__law_draw.nd rfl (Or.inl rfl) (pe_op op_mod (pe_callTy call_int1 rfl T.b_int (by decide +kernel) (pa_cons (pe_dget (by exact hu) (pv 0) pe_str (fun _ _ => rfl)) pa_nil)) (pv 1)))
      (pss_cons (ps_dput (by exact hu) (pv 0) pe_str (pe_op op_fdivN (pe_dget (by exact hu) (pv 0) pe_str (fun _ _ => rfl)) (pv 1)) rfl)
      (pss_one (ps_ret (pv 4))))) pss_nil)
      (pss_cons (ps_dput (by exact hu) (pv 0) pe_str (pe_op op_mod (pe_callTy call_int1 rfl T.b_int (by decide +kernel) (pa_cons (pe_op op_add (pe_op op_mul (pe_dget (by exact hu) (pv 0) pe_str (fun _ _ => rfl)) pe_int) pe_int) pa_nil)) pe_int) rfl)
      (pss_one (ps_ret (pe_op op_mod (pe_op op_mod (pe_callTy call_int1 rfl T.b_int (by decide +kernel) (pa_cons (pe_op op_pow (pe_dget (by exact hu) (pv 0) pe_str (fun _ _ => rfl)) pe_int) pa_nil)) pe_int) (pv 1))))))), ?_⟩
    obtain ⟨hm0, hm1, B, k⟩ := h
    have bk : ∀ {H' : Hp} {σ : L2.St} {a r s : Int} (key : Str) (v : V), σ[0]? = some (some (V.ref b)) → H' b = some (.dK (bagK c a r s)) → valV (bagK c a r s) (.inr key) = some v → Ev (tDGet (tVar 0) (tC (.str key))) σ H' v := fun {H' σ a r s} key v h1 h2 h3 => ev_dget (k := .inr key) (ev_var h1) ev_c (.inl h2) h3
    refine q_while (fun n σ' H' => ∃ (a r s : Int) (wv : Option V), σ' = [some (V.ref b), some (.int m), wv, none, none] ∧ ExS (oneA b) H H' ∧ BagAt H' b c cells a r s ∧ (n : Int) = cells.length - a) ((cells.length : Int) - a).toNat ⟨a, r, s, none, rfl, ExS.refl _ _, B, by have := B.a1; omega⟩ (fun n σ' H' hw => ?_)
    obtain ⟨a, r, s, wv, rfl, S, B, hn⟩ := hw
    refine ⟨decide (r < 2) && decide (a < cells.length), et_and (et_B (ev_op (bk "rest" (.int r) rfl B.ob get_rest) ev_c rv_I0)) (fun _ => et_B (ev_op (bk "at" (.int a) rfl B.ob get_at) (ev_is (ev_cb (ea_cons (bk "cells" (.ref c) rfl B.ob get_cells) ea_nil) (rc_len_l (sq_of B.ce))) (by rw [List.length_map])) rv_I0)), fun hb H1 e1 => ?_, fun hb H1 e1 => ?_⟩
    · simp only [Bool.and_eq_true, decide_eq_true_iff] at hb
      refine ⟨fun σ' H' => ∃ (n' : Nat), n' < n ∧ ∃ (a r s : Int) (wv : Option V), σ' = [some (V.ref b), some (.int m), wv, none, none] ∧ ExS (oneA b) H H' ∧ BagAt H' b c cells a r s ∧ (n' : Int) = cells.length - a, fun σ2 H2 q => q, ?_⟩
      have B1 := B.ex e1
      obtain ⟨cv, _, hcv⟩ : ∃ v, cells[a.toNat]? = some v ∧ atI (cells.map V.int) a = some (.int v) := by
        have h : a.toNat < cells.length := by have := B.a0; omega
        refine ⟨_, List.getElem?_eq_getElem h, ?_⟩
        have h2 := atI_nat (xs := cells.map V.int) (j := a.toNat) (v := .int cells[a.toNat]) (by rw [List.getElem?_map]; simp [h])
        rwa [Int.toNat_of_nonneg B.a0] at h2
      refine q_asg (v := .int (if cv < 0 then -cv else cv)) (ev_cb (ea_cons (ev_op (bk "cells" (.ref c) rfl B1.ob get_cells) (bk "at" (.int a) rfl B1.ob get_at) (rv_ixL (sq_of B1.ce) hcv)) ea_nil) rc_abs) fun H2 e2 => ?_
      have hab : 0 ≤ (if cv < 0 then -cv else cv) := by split <;> omega
      generalize (if cv < 0 then -cv else cv) = ab at hab
      have B2 := B1.ex e2
      refine q_dputK (key := .inr "at") (v := .int (a + 1)) (ev_op (bk "at" (.int a) rfl B2.ob get_at) ev_c rv_I0) (ev_var rfl) ev_c B2.ob bag_sz fun H3 e3 => ?_
      rw [bag_at]
      have B3 := B2.put (a' := a + 1) e3 (by have := B.a0; omega) (by omega) B.r0 B.s0 B.s1
      have S3 : ExS (oneA b) H (upd H3 b (.dK (bagK c (a + 1) r s))) := ExS.mut (S := oneA b) (((S.ex e1).ex e2).ex e3) (.inl rfl)
      generalize upd H3 b (.dK (bagK c (a + 1) r s)) = G3 at B3 S3
      refine q_when (b := decide (ab < 10 ^ 18)) (et_B (ev_op (ev_var rfl) (ev_op ev_c ev_c (rv_I (g := fun i j => .int (i ^ j.toNat)) (i := 10) (j := 18) ⟨by decide, by decide, by decide⟩)) rv_I0)) (fun hb2 H4 e4 => ?_) (fun hb2 H4 e4 => ?_)
      · simp only [decide_eq_true_iff] at hb2
        have B4 := B3.ex e4
        refine q_asg (v := .int (((ab + 3) ^ (3 : Int).toNat + s * (a + 1 + 1)) % 2147483629)) (ev_op (ev_cb (ea_cons (ev_op (ev_op (ev_op (ev_var rfl) ev_c rv_I0) ev_c (rv_I ⟨by decide, by decide, ?_⟩)) (ev_op (bk "state" (.int s) rfl B4.ob get_state) (ev_op (bk "at" (.int (a + 1)) rfl B4.ob get_at) ev_c rv_I0) (rv_I (.inl ?_))) rv_I0) ea_nil) rc_int_i) ev_c (rv_I (by decide))) fun H5 e5 => ?_
        · have h : ab < 1000000000000000000 := hb2
          omega
        · have := B.s0; have := B.s1
          constructor <;> omega
        · refine s_ret (ev_op (ev_var rfl) (ev_var rfl) (rv_I hm0)) fun H6 e6 => k _ _ (a + 1) r s (Int.emod_nonneg _ (by omega)) (Int.emod_lt_of_pos _ hm0) (((S3.ex e4).ex e5).ex e6) ((B4.ex e5).ex e6)
      · have B4 := B3.ex e4
        refine s_dputK (key := .inr "rest") (ev_var rfl) (ev_var rfl) ev_c B4.ob bag_sz fun H5 e5 => ?_
        rw [bag_rest]
        exact ⟨(cells.length - (a + 1)).toNat, by omega, a + 1, ab, s, _, rfl, ExS.mut (S := oneA b) ((S3.ex e4).ex e5) (.inl rfl), B4.put e5 B3.a0 B3.a1 hab B.s0 B.s1, by have := B3.a1; omega⟩
    · have B1 := B.ex e1
      have S1 := S.ex e1
      refine q_when (b := decide (r ≥ 2)) (et_B (ev_op (bk "rest" (.int r) rfl B1.ob get_rest) ev_c rv_I0)) (fun hb2 H2 e2 => ?_) (fun hb2 H2 e2 => ?_)
      · have B2 := B1.ex e2
        refine q_asg (v := .int (r % m)) (ev_op (ev_cb (ea_cons (bk "rest" (.int r) rfl B2.ob get_rest) ea_nil) rc_int_i) (ev_var rfl) (rv_I hm0)) fun H3 e3 => ?_
        have B3 := B2.ex e3
        refine q_dputK (key := .inr "rest") (v := .int (r.fdiv m)) (ev_op (bk "rest" (.int r) rfl B3.ob get_rest) (ev_var rfl) (rv_I ⟨by omega, by omega⟩)) (ev_var rfl) ev_c B3.ob bag_sz fun H4 e4 => ?_
        rw [bag_rest]
        have hr0 := B.r0
        have B4 := B3.put (r' := r.fdiv m) e4 B.a0 B.a1 (Int.fdiv_nonneg hr0 (by omega)) B.s0 B.s1
        have S4 : ExS (oneA b) H (upd H4 b (.dK (bagK c a (r.fdiv m) s))) := ExS.mut (S := oneA b) (((S1.ex e2).ex e3).ex e4) (.inl rfl)
        exact s_ret (ev_var rfl) fun H5 e5 => k _ _ a (r.fdiv m) s (Int.emod_nonneg _ (by omega)) (Int.emod_lt_of_pos _ hm0) (S4.ex e5) (B4.ex e5)
      · have B2 := B1.ex e2
        have hs0 := B.s0
        have hs1 := B.s1
        refine q_dputK (key := .inr "state") (v := .int ((s * 48271 + 13) % 2147483647)) (ev_op (ev_cb (ea_cons (ev_op (ev_op (bk "state" (.int s) rfl B2.ob get_state) ev_c (rv_I (.inr (by constructor <;> omega)))) ev_c rv_I0) ea_nil) rc_int_i) ev_c (rv_I (by decide))) (ev_var rfl) ev_c B2.ob bag_sz fun H3 e3 => ?_
        rw [bag_state]
        have h0 : 0 ≤ (s * 48271 + 13) % 2147483647 := Int.emod_nonneg _ (by decide)
        have h1 : (s * 48271 + 13) % 2147483647 < 2147483647 := Int.emod_lt_of_pos _ (by decide)
        generalize (s * 48271 + 13) % 2147483647 = s' at h0 h1
        have B3 := B2.put (s' := s') e3 B.a0 B.a1 B.r0 h0 h1
        have S3 : ExS (oneA b) H (upd H3 b (.dK (bagK c a r s'))) := ExS.mut (S := oneA b) ((S1.ex e2).ex e3) (.inl rfl)
        generalize upd H3 b (.dK (bagK c a r s')) = G3 at B3 S3
        refine s_ret (v := .int ((s' ^ (5 : Int).toNat) % 2147483629 % m)) (ev_op (ev_op (ev_cb (ea_cons (ev_op (bk "state" (.int s') rfl B3.ob get_state) ev_c (rv_I ⟨by decide, by decide, by omega⟩)) ea_nil) rc_int_i) ev_c (rv_I (by decide))) (ev_var rfl) (rv_I hm0)) fun H4 e4 => k _ _ a r s' (Int.emod_nonneg _ (by omega)) (Int.emod_lt_of_pos _ hm0) (S3.ex e4) (B3.ex e4)
open PySem PySem.Spec PyProof.Rows L2 Evl Hb TL
def WOk (w : Str) : Bool := decide (w.length ≤ 400) && w.cps.toList.all fun c => decide (c ≠ 32) && decide (c ≠ 10) && decide (c < 128)
theorem el_cat {ta tb : TE} {σ : L2.St} {H : Hp} {l : Addr} {xs ys : List V} (ha : Ev ta σ H (.ref l)) (hl : H l = some (.lst xs)) (hb : EvL tb σ H ys) (hz : xs.length + ys.length ≤ sizeLine) : EvL (tOp rCat ta tb) σ H (xs ++ ys) := fun H1 e Q q =>
  ha H1 e _ fun H2 e2 => hb H2 (e.trans e2) _ fun p H3 _ e3 h3 => ⟨l, p, xs, ys, rfl, rfl, ((e.trans e2).trans e3) _ _ hl, h3, hz, fun t ht => q t _ (fresh_back e2 (fresh_back e3 ht)) ((e2.trans e3).trans (Ex.new ht)) upd_same⟩
theorem rv_mulS {H : Hp} {c n : Nat} (h1 : 1 < n) (h2 : n ≤ 100000) : RV rMulS (.str ⟨#[c]⟩) (.int (n : Int)) H (.str ⟨(List.replicate n c).toArray⟩) := fun H1 e Q q => ⟨c, n, rfl, rfl, h1, h2, q H1 (Ex.refl H1)⟩
def wordsA : List Str := ["00", "01", "256", "999", "-1", "+1", "1.0", "", "x", "stop", "form", "old", "answer", "wait", "to"]
def wordsB : List Str := ["entries", "crossings", "stretch", "255", "0", "7", ⟨(List.replicate 400 57).toArray⟩, "0x1", "1_0", "none"]
theorem words_ok : ∀ w ∈ wordsA ++ wordsB, WOk w = true := by decide +kernel
def sp_word : Sp := fun vs H Q _ => ∃ (b c : Addr) (cells : List Int) (a r s : Int), vs = [.ref b] ∧ BagAt H b c cells a r s ∧
  ∀ w H2 a' r' s', WOk w = true → ExS (oneA b) H H2 → BagAt H2 b c cells a' r' s' → Q (.str w) H2
theorem ok__law_word {P : Program} {w : World} {K : PySem.W.Frag} {mg : Str → Option Value} {base : Heap} (T : Txt P K mg) : FnR P w K mg base (CX0) 2 (f__law_word K) (sp_word) := by
  obtain ⟨fd, F⟩ := T.F__law_word
  have F__law_draw := ok__law_draw (w := w) (base := base) T
  refine Rr.fnR_ok (F.ok sc__law_word (fun vs H Q E h => ?_) (fun cdv A outer s H vs Q E hr h => ?_)) (F.bindsN fun _ _ _ _ _ _ us hl => match us, hl with | [_], _ => rfl)
  · obtain ⟨b, c, cells, a, r, s, rfl, _⟩ := h
    rfl
  · obtain ⟨b, c, cells, a, r, s, rfl, h⟩ := h
    have hr__law_draw : Room 1 _ := hr.mono (by decide)
    refine ⟨_, PSs.nox (pss_cons (ps_set (i := 1) sc__law_word.nd rfl (Or.inl rfl) (pe_lst (pa_cons pe_str (pa_cons pe_str (pa_cons pe_str (pa_cons pe_str (pa_cons pe_str (pa_cons pe_str (pa_cons pe_str (pa_cons pe_str (pa_cons pe_str (pa_cons pe_str (pa_cons pe_str (pa_cons pe_str (pa_cons pe_str (pa_cons pe_str (pa_cons pe_str pa_nil)))))))))))))))))
      (pss_cons (ps_set (i := 1) sc__law_word.nd rfl (Or.inl rfl) (pe_op op_cat (pv 1) (pe_lst (pa_cons pe_str (pa_cons pe_str (pa_cons pe_str (pa_cons pe_str (pa_cons pe_str (pa_cons pe_str (pa_cons (pe_op op_mulS pe_str pe_int) (pa_cons pe_str (pa_cons pe_str (pa_cons pe_str pa_nil)))))))))))))
      (pss_one (ps_ret (pe_ix ix_list (pv 1) (Rr.pe_cR F__law_draw hr__law_draw T.k__law_draw T.g__law_draw Rr.pass0 (pa_cons (pv 0) (pa_cons (pe_callB call_len_seq rfl T.b_len (by decide +kernel) (pa_cons (pv 1) pa_nil)) pa_nil))) (fun _ _ => rfl)))))), ?_⟩
    obtain ⟨B, k⟩ := h
    refine q_asgL (xs := wordsA.map V.str) (el_lst (vs := wordsA.map V.str) (by repeat' first | exact ea_nil | exact ev_c | refine ea_cons ?_ ?_) (by decide)) fun p H1 hp e1 h1 => ?_
    refine q_asgL (xs := wordsA.map V.str ++ wordsB.map V.str) (el_cat (ev_var rfl) h1 (el_lst (vs := wordsB.map V.str) ?_ (by decide)) (by decide)) fun q H2 hq e2 h2 => ?_
    · refine ea_cons ev_c (ea_cons ev_c (ea_cons ev_c (ea_cons ev_c (ea_cons ev_c (ea_cons ev_c (ea_cons (ev_op ev_c ev_c (rv_mulS (c := 57) (n := 400) (by decide) (by decide))) (ea_cons ev_c (ea_cons ev_c (ea_cons ev_c ea_nil)))))))))
    · rw [← List.map_append] at h2
      have B2 := B.ex (e1.trans e2)
      refine op_any (ev_go (ev_var rfl) fun H3 e3 => call_R (vs := [.ref b, .int 25]) (ea_cons (ev_var rfl) (ea_cons (ev_is (ev_cb (ea_cons (ev_var rfl) ea_nil) (rc_len_l (sq_of (e3 _ _ h2)))) (by decide)) ea_nil)) fun H4 e4 => ⟨b, 25, c, cells, a, r, s, rfl, by decide, by decide, (B2.ex e3).ex e4, fun z H5 a' r' s' h0 hz S B' => ?_⟩)
      have hlt : z.toNat < (wordsA ++ wordsB).length := by
        have : (wordsA ++ wordsB).length = 25 := by decide
        omega
      have hqb : q ≠ b := ne_of h2 B2.ob (by simp)
      have hat := atI_nat (xs := (wordsA ++ wordsB).map V.str) (j := z.toNat) (v := .str (wordsA ++ wordsB)[z.toNat]) (by rw [List.getElem?_map]; simp only [List.getElem?_eq_getElem hlt]; rfl)
      rw [Int.toNat_of_nonneg h0] at hat
      refine ⟨q, _, z, _, rfl, rfl, sq_of (S q _ hqb (e4 _ _ (e3 _ _ h2))), hat, k _ H5 a' r' s' (words_ok _ (List.getElem_mem hlt)) ((Ex.toS (((e1.trans e2).trans e3).trans e4)).trans S) B'⟩
open PySem PySem.Spec PyProof.Rows L2 Evl Hb TL
structure LOk (lo n m : Nat) (rows : List (List Str)) : Prop where
  ge : lo ≤ rows.length
  len : rows.length ≤ n
  wid : ∀ ws ∈ rows, ws.length ≤ m
  wok : ∀ ws ∈ rows, ∀ w ∈ ws, WOk w = true
theorem LOk.app {lo n m : Nat} {rows : List (List Str)} {ws : List Str} (h : LOk lo n m rows) (h1 : ws.length ≤ m) (h2 : ∀ w ∈ ws, WOk w = true) : LOk (lo + 1) (n + 1) m (rows ++ [ws]) :=
  ⟨by rw [List.length_append, List.length_singleton]; have := h.ge; omega, by rw [List.length_append, List.length_singleton]; have := h.len; omega, fun x hx => (List.mem_append.mp hx).elim (h.wid x) (fun z => by rw [List.mem_singleton.mp z]; exact h1), fun x hx => (List.mem_append.mp hx).elim (h.wok x) (fun z => by rw [List.mem_singleton.mp z]; exact h2)⟩
theorem rows_ne {H : Hp} {l : Addr} {as : List Addr} {a : Addr} {ws : List Str} (h1 : H l = some (.lst (as.map V.ref))) (hm : a ∈ as) (h2 : H a = some (.lst (ws.map V.str))) : a ≠ l := fun z => by
  rw [z, h1] at h2
  injection h2 with h2
  injection h2 with h2
  cases as with
  | nil => cases hm
  | cons x as =>
    cases ws with
    | nil => cases h2
    | cons w ws => injection h2 with h2; cases h2
theorem Rows.app {H H1 : Hp} {l p : Addr} {rows : List (List Str)} {ws : List Str} (R : Rows H l rows) (e : Ex H H1) (hn : H p = none) (hp : H1 p = some (.lst (ws.map V.str))) : ∃ xs, H l = some (.lst xs) ∧ xs.length = rows.length ∧ Rows (upd H1 l (.lst (xs ++ [.ref p]))) l (rows ++ [ws]) := by
  obtain ⟨as, h1, h2, h3⟩ := R
  refine ⟨as.map V.ref, h1, by rw [List.length_map, h2], as ++ [p], ?_, by rw [List.length_append, List.length_append, h2]; rfl, fun i a vs ha hv => ?_⟩
  · rw [List.map_append]; exact upd_same
  · by_cases hi : i < as.length
    · rw [List.getElem?_append_left hi] at ha
      rw [List.getElem?_append_left (by omega)] at hv
      have h := h3 i a vs ha hv
      rw [upd_ne (rows_ne h1 (List.mem_of_getElem? ha) h)]
      exact e _ _ h
    · rw [List.getElem?_append_right (by omega)] at ha hv
      rw [← h2] at hv
      have h0 : i - as.length = 0 := by
        cases hq : i - as.length with
        | zero => rfl
        | succ k => rw [hq] at ha; cases ha
      rw [h0] at ha hv
      cases ha; cases hv
      rw [upd_ne (ne_of_none h1 hn).symm]
      exact hp
theorem q_appRow {K : PySem.W.Frag} {ta te : TE} {D : Ends} {tz : TS} {σ : L2.St} {H : Hp} {l : Addr} {rows : List (List Str)} {ws : List Str} (R : Rows H l rows) (hl : rows.length ≤ 1000) (ha : Ev ta σ H (.ref l)) (h : EvL te σ H (ws.map V.str)) (k : ∀ G, ExS (oneA l) H G → Rows G l (rows ++ [ws]) → tz D σ G) :
    tSeq (tDrop (tBM K "list" rAppend ta (tCons te tNil))) tz D σ H := by
  obtain ⟨as, h1, h2, _⟩ := id R
  refine q_appL h1 ha h (by rw [List.length_map]; omega) fun p H1 hp e1 hp1 => ?_
  obtain ⟨xs, hx, _, R2⟩ := Rows.app R e1 hp hp1
  rw [h1] at hx
  cases hx
  exact k _ (ExS.mut (S := oneA l) (Ex.toS e1) (.inl rfl)) R2
open PySem PySem.Spec PyProof.Rows L2 Evl Hb TL
structure LI (H G : Hp) (b c : Addr) (cells : List Int) (l : Addr) (lo n m : Nat) : Prop where
  S : ExS (oneA b) H G
  B : ∃ a r s, BagAt G b c cells a r s
  R : ∃ rows, Rows G l rows ∧ LOk lo n m rows
theorem LI.ex {H G G' : Hp} {b c : Addr} {cells : List Int} {l : Addr} {lo n m : Nat} (h : LI H G b c cells l lo n m) (e : Ex G G') : LI H G' b c cells l lo n m :=
  ⟨h.S.ex e, h.B.imp fun a ⟨r, s, B⟩ => ⟨r, s, B.ex e⟩, h.R.imp fun rows ⟨R, O⟩ => ⟨R.ex e, O⟩⟩
theorem rows_exd {H H' : Hp} {b l : Addr} {kvs : List (Key × V)} {rows : List (List Str)} (h : Rows H l rows) (hb : H b = some (.dK kvs)) (e : ExS (oneA b) H H') : Rows H' l rows := by
  obtain ⟨as, h1, h2, h3⟩ := h
  exact ⟨as, e l _ (ne_of h1 hb (by simp)) h1, h2, fun i a ws ha hw => e a _ (ne_of (h3 i a ws ha hw) hb (by simp)) (h3 i a ws ha hw)⟩
theorem LI.drawn {H G G' : Hp} {b c : Addr} {cells : List Int} {l : Addr} {lo n m : Nat} {a r s : Int} (h : LI H G b c cells l lo n m) (e : ExS (oneA b) G G') (B : BagAt G' b c cells a r s) : LI H G' b c cells l lo n m :=
  ⟨h.S.trans e, ⟨a, r, s, B⟩, h.R.imp fun rows ⟨R, O⟩ => ⟨by
    obtain ⟨_, _, _, B0⟩ := h.B
    exact rows_exd R B0.ob e, O⟩⟩
theorem q_appLI {K : PySem.W.Frag} {ta te : TE} {D : Ends} {tz : TS} {σ : L2.St} {H G : Hp} {b c l : Addr} {cells : List Int} {lo n m : Nat} {ws : List Str} (I : LI H G b c cells l lo n m) (hl : H l = none) (hc : H c = some (.lst (cells.map V.int))) (hn : n ≤ 1000) (ha : Ev ta σ G (.ref l)) (h : EvL te σ G (ws.map V.str)) (h1 : ws.length ≤ m) (h2 : ∀ w ∈ ws, WOk w = true) (k : ∀ G', LI H G' b c cells l (lo + 1) (n + 1) m → tz D σ G') :
    tSeq (tDrop (tBM K "list" rAppend ta (tCons te tNil))) tz D σ G := by
  obtain ⟨rows, R, O⟩ := I.R
  obtain ⟨a, r, s, B⟩ := I.B
  obtain ⟨as, hl1, _⟩ := id R
  refine q_appRow R (by have := O.len; omega) ha h fun G' e R' => k G' ⟨I.S.sub e (fun a (h : a = l) => .inr (by rw [h]; exact hl)), ⟨a, r, s, e _ _ (ne_of B.ob hl1 (by simp)) B.ob, e _ _ (fun z : c = l => by rw [z, hl] at hc; cases hc) B.ce, B.le, B.a0, B.a1, B.r0, B.s0, B.s1⟩, ⟨_, R', O.app h1 h2⟩⟩
theorem s_appLI {K : PySem.W.Frag} {ta te : TE} {D : Ends} {σ : L2.St} {H G : Hp} {b c l : Addr} {cells : List Int} {lo n m : Nat} {ws : List Str} (I : LI H G b c cells l lo n m) (hl : H l = none) (hc : H c = some (.lst (cells.map V.int))) (hn : n ≤ 1000) (ha : Ev ta σ G (.ref l)) (h : EvL te σ G (ws.map V.str)) (h1 : ws.length ≤ m) (h2 : ∀ w ∈ ws, WOk w = true) (k : ∀ G', LI H G' b c cells l (lo + 1) (n + 1) m → D.nx σ G') :
    tDrop (tBM K "list" rAppend ta (tCons te tNil)) D σ G := by
  obtain ⟨rows, R, O⟩ := I.R
  obtain ⟨a, r, s, B⟩ := I.B
  obtain ⟨as, hl1, _⟩ := id R
  refine q_appRow (tz := fun D σ H => D.nx σ H) R (by have := O.len; omega) ha h fun G' e R' => k G' ⟨I.S.sub e (fun a (h : a = l) => .inr (by rw [h]; exact hl)), ⟨a, r, s, e _ _ (ne_of B.ob hl1 (by simp)) B.ob, e _ _ (fun z : c = l => by rw [z, hl] at hc; cases hc) B.ce, B.le, B.a0, B.a1, B.r0, B.s0, B.s1⟩, ⟨_, R', O.app h1 h2⟩⟩
theorem log_small {i : Int} (h : i.natAbs < 1000) : i.natAbs.log2 < 1920 := Nat.lt_of_le_of_lt (Nat.log2_le_self _) (by omega)
theorem rc_strI {H : Hp} {i : Int} (h : i.natAbs < 1000) : RC (fun xs H Q => ∃ i, xs = [V.int i] ∧ i.natAbs.log2 < 1920 ∧ Q (.str (toString i)) H) [.int i] H (.str (toString i)) := fun H1 e Q q => ⟨i, rfl, log_small h, q H1 (Ex.refl H1)⟩
theorem even_ok : ∀ i : Nat, i < 3 → WOk (toString (2 * (0 + (i : Nat) : Int))) = true
  | 0, _ => by decide +kernel
  | 1, _ => by decide +kernel
  | 2, _ => by decide +kernel
theorem form_ok : ∀ i : Nat, i < 4 → ∀ x, ("abcd" : Str).cps.toList[i]? = some x → ∀ w ∈ ([("form" : Str), toString (1 + (i : Int)), ⟨#[x]⟩ ++ "z", "1", if (i : Int) > 0 then "next" else "end"] : List Str), WOk w = true
  | 0, _, x, h => by cases h; decide +kernel
  | 1, _, x, h => by cases h; decide +kernel
  | 2, _, x, h => by cases h; decide +kernel
  | 3, _, x, h => by cases h; decide +kernel
theorem LI.weak {H G : Hp} {b c : Addr} {cells : List Int} {l : Addr} {lo lo' n n' m : Nat} (h : LI H G b c cells l lo n m) (hn : n ≤ n') (hlo : lo' ≤ lo := by omega) : LI H G b c cells l lo' n' m := ⟨h.S, h.B, h.R.imp fun rows ⟨R, O⟩ => ⟨R, ⟨Nat.le_trans hlo O.ge, Nat.le_trans O.len hn, O.wid, O.wok⟩⟩⟩
theorem s_whenA {te : TE} {tu : TS} {D : Ends} {σ : L2.St} {H : Hp} (h : te σ H fun v H1 => ∃ b, v = V.bl b ∧ (if b = true then tu D σ H1 else D.nx σ H1)) : tIfS (tB te) tu tNext D σ H := h
theorem lc_RA {ta te : TE} {g : TG} {tt : TT} {vs : List Nat} {σ : L2.St} {H : Hp} {Q : VK} (h : ta σ H fun v H1 => tLc (iRng1 (tCons (tC v) tNil)) g tt te vs σ H1 Q) : tLc (iRng1 (tCons ta tNil)) g tt te vs σ H Q := h
theorem s_appX {K : PySem.W.Frag} {te : TE} {D : Ends} {σ : L2.St} {H : Hp} {l : Addr} {xs : List V} {i : Nat} (hi : σ[i]? = some (some (.ref l))) (hl : H l = some (.lst xs)) (h : te σ H fun y H2 => rAppend (.ref l) [y] H2 fun _ H3 => D.nx σ H3) : tDrop (tBM K "list" rAppend (tVar i) (tCons te tNil)) D σ H := ⟨_, hi, Or.inl ⟨rfl, xs, sq_of hl⟩, h⟩
theorem el_catLL {ta tb : TE} {σ : L2.St} {H : Hp} {xs ys : List V} (ha : EvL ta σ H xs) (hb : EvL tb σ H ys) (hz : xs.length + ys.length ≤ sizeLine) : EvL (tOp rCat ta tb) σ H (xs ++ ys) := fun H1 e Q q =>
  ha H1 e _ fun p H2 _ e2 h2 => hb H2 (e.trans e2) _ fun p2 H3 _ e3 h3 => ⟨p, p2, xs, ys, rfl, rfl, e3 _ _ h2, h3, hz, fun t ht => q t _ (fresh_back e2 (fresh_back e3 ht)) ((e2.trans e3).trans (Ex.new ht)) upd_same⟩
def onesOf (w : Str) (n : Nat) : List Str := w :: (List.range n).map fun _ => "1"
theorem ones_ok {w : Str} {n : Nat} (h : WOk w = true) : ∀ x ∈ onesOf w n, WOk x = true := fun x hx => by
  rcases List.mem_cons.mp hx with hx | hx
  · rw [hx]; exact h
  · obtain ⟨_, _, rfl⟩ := List.mem_map.mp hx
    decide +kernel
theorem ones_map {w : Str} {n : Nat} : (onesOf w n).map V.str = [V.str w] ++ (List.range n).map fun _ => V.str "1" := by
  unfold onesOf
  rw [List.map_cons, List.map_map]; rfl
theorem s_forRA {ta : TE} {g : TG} {tb : TS} {D : Ends} {σ : L2.St} {H : Hp} (h : ta σ H fun v H1 => tFor (iRng1 (tCons (tC v) tNil)) g tb D σ H1) : tFor (iRng1 (tCons ta tNil)) g tb D σ H := h
theorem q_lst1 {te : TE} {D : Ends} {tz : TS} {σ : L2.St} {H : Hp} {xs : List V} {i : Nat} (h : EvL te σ H xs) (k : ∀ p l H1, Ex H H1 → H1 p = some (.lst xs) → H1 l = none → tz D (σ.set i (some (.ref l))) (upd H1 l (.lst [.ref p]))) : tSeq (tAsg (tLst (tCons te tNil)) (gName i)) tz D σ H :=
  h H (Ex.refl H) _ fun p H1 _ e1 h1 => ⟨by rw [sizeLine_eq]; simp, fun l hl => k p l H1 e1 h1 hl⟩
def sp_lines : Sp := fun vs H Q _ => ∃ (b c : Addr) (cells : List Int) (a r s : Int), vs = [.ref b] ∧ BagAt H b c cells a r s ∧
  ∀ l G, H l = none → LI H G b c cells l 3 14 8 → Q (.ref l) G
theorem ok__law_lines {P : Program} {w : World} {K : PySem.W.Frag} {mg : Str → Option Value} {base : Heap} (T : Txt P K mg) : FnR P w K mg base (CX0) 2 (f__law_lines K) (sp_lines) := by
  obtain ⟨fd, F⟩ := T.F__law_lines
  have F__law_draw := ok__law_draw (w := w) (base := base) T
  refine Rr.fnR_ok (F.ok sc__law_lines (fun vs H Q E h => ?_) (fun cdv A outer s H vs Q E hr h => ?_)) (F.bindsN fun _ _ _ _ _ _ us hl => match us, hl with | [_], _ => rfl)
  · obtain ⟨b, c, cells, a, r, s, rfl, _⟩ := h
    rfl
  · obtain ⟨b, c, cells, a, r, s, rfl, h⟩ := h
    have hr__law_draw : Room 1 _ := hr.mono (by decide)
    refine ⟨_, PSs.nox (pss_cons (ps_set (i := 1) sc__law_lines.nd rfl (Or.inl rfl) (pe_lst (pa_cons (pe_lst (pa_cons pe_str (pa_cons pe_str pa_nil))) pa_nil)))
      (pss_cons (ps_for PassesOwn.never rfl (pi_range1 rfl T.b_range (pa_cons (pe_op op_add pe_int (Rr.pe_cR F__law_draw hr__law_draw T.k__law_draw T.g__law_draw Rr.pass0 (pa_cons (pv 0) (pa_cons pe_int pa_nil)))) pa_nil)) (pg_name (i := 2) sc__law_lines.nd rfl (Or.inl rfl)) (pss_one (ps_expr (pe_bm PySem.F.plainAttrs_list PySem.F.slot_list_append PySem.F.type_list_append mt_append (pv 1) (pa_cons (pe_lst (pa_cons pe_str (pa_cons (pe_callTy call_str_int rfl T.b_str (by decide +kernel) (pa_cons (pe_op op_add pe_int (pv 2)) pa_nil)) (pa_cons (pe_op op_add_str (pe_ix ix_str pe_str (pv 2) (fun _ _ => rfl)) pe_str) (pa_cons pe_str (pa_cons (pe_ix ix_list (pe_lst (pa_cons pe_str (pa_cons pe_str pa_nil))) (pe_callTy call_int1 rfl T.b_int (by decide +kernel) (pa_cons (pe_cmpR op_gt (pv 2) pe_int (nomark _)) pa_nil)) (fun _ _ => rfl)) pa_nil)))))) pa_nil)))))
      (pss_cons (ps_expr (pe_bm PySem.F.plainAttrs_list PySem.F.slot_list_append PySem.F.type_list_append mt_append (pv 1) (pa_cons (pe_lst (pa_cons pe_str (pa_cons pe_str (pa_cons pe_str pa_nil)))) pa_nil)))
      (pss_cons (ps_set (i := 3) sc__law_lines.nd rfl (Or.inl rfl) (pe_op op_add pe_int (Rr.pe_cR F__law_draw hr__law_draw T.k__law_draw T.g__law_draw Rr.pass0 (pa_cons (pv 0) (pa_cons pe_int pa_nil)))))
      (pss_cons (ps_expr (pe_bm PySem.F.plainAttrs_list PySem.F.slot_list_append PySem.F.type_list_append mt_append (pv 1) (pa_cons (pe_op op_cat (pe_lst (pa_cons pe_str pa_nil)) (pe_lc (own := [("_law_k", 2)]) (g := gName 2) (tt := tYes) rfl sc__law_lines.nd (pi_range1 rfl T.b_range (pa_cons (pv 3) pa_nil)) (blkOk_by (N := N__law_lines) (sc := defScope s__law_lines) (by decide +kernel)) (fun _ _ _ _ _ => (pg_name (i := 2) sc__law_lines.nd rfl (Or.inl rfl))) (fun _ _ _ _ _ => pts_nil) (fun _ _ _ _ _ => pe_str))) pa_nil)))
      (pss_cons (ps_expr (pe_bm PySem.F.plainAttrs_list PySem.F.slot_list_append PySem.F.type_list_append mt_append (pv 1) (pa_cons (pe_op op_cat (pe_lst (pa_cons pe_str pa_nil)) (pe_lc (own := [("_law_k", 2)]) (g := gName 2) (tt := tYes) rfl sc__law_lines.nd (pi_range1 rfl T.b_range (pa_cons (pv 3) pa_nil)) (blkOk_by (N := N__law_lines) (sc := defScope s__law_lines) (by decide +kernel)) (fun _ _ _ _ _ => (pg_name (i := 2) sc__law_lines.nd rfl (Or.inl rfl))) (fun _ _ _ _ _ => pts_nil) (fun _ _ _ _ _ => pe_str))) pa_nil)))
      (pss_cons (ps_expr (pe_bm PySem.F.plainAttrs_list PySem.F.slot_list_append PySem.F.type_list_append mt_append (pv 1) (pa_cons (pe_lst (pa_cons pe_str (pa_cons pe_str (pa_cons pe_str pa_nil)))) pa_nil)))
      (pss_cut (ps_if (pt_cmpR op_eq (Rr.pe_cR F__law_draw hr__law_draw T.k__law_draw T.g__law_draw Rr.pass0 (pa_cons (pv 0) (pa_cons pe_int pa_nil))) pe_int (nomark _)) (pss_one (ps_expr (pe_bm PySem.F.plainAttrs_list PySem.F.slot_list_append PySem.F.type_list_append mt_append (pv 1) (pa_cons (pe_lst (pa_cons pe_str (pa_cons pe_str pa_nil))) pa_nil)))) pss_nil)
      (pss_cut (ps_if (pt_cmpR op_eq (Rr.pe_cR F__law_draw hr__law_draw T.k__law_draw T.g__law_draw Rr.pass0 (pa_cons (pv 0) (pa_cons pe_int pa_nil))) pe_int (nomark _)) (pss_one (ps_expr (pe_bm PySem.F.plainAttrs_list PySem.F.slot_list_append PySem.F.type_list_append mt_append (pv 1) (pa_cons (pe_op op_cat (pe_lst (pa_cons pe_str pa_nil)) (pe_lc (own := [("_law_k", 2)]) (g := gName 2) (tt := tYes) rfl sc__law_lines.nd (pi_range1 rfl T.b_range (pa_cons (Rr.pe_cR F__law_draw hr__law_draw T.k__law_draw T.g__law_draw Rr.pass0 (pa_cons (pv 0) (pa_cons pe_int pa_nil))) pa_nil)) (blkOk_by (N := N__law_lines) (sc := defScope s__law_lines) (by decide +kernel)) (fun _ _ _ _ _ => (pg_name (i := 2) sc__law_lines.nd rfl (Or.inl rfl))) (fun _ _ _ _ _ => pts_nil) (fun _ _ _ _ _ => (pe_callTy call_str_int rfl T.b_str (by decide +kernel) (pa_cons (pe_op op_mul pe_int (pv 2)) pa_nil))))) pa_nil)))) pss_nil)
      (pss_cons (ps_expr (pe_bm PySem.F.plainAttrs_list PySem.F.slot_list_append PySem.F.type_list_append mt_append (pv 1) (pa_cons (pe_lst (pa_cons pe_str (pa_cons pe_str (pa_cons pe_str pa_nil)))) pa_nil)))
      (pss_cons (ps_expr (pe_bm PySem.F.plainAttrs_list PySem.F.slot_list_append PySem.F.type_list_append mt_append (pv 1) (pa_cons (pe_lst (pa_cons pe_str (pa_cons pe_str (pa_cons pe_str (pa_cons pe_str pa_nil))))) pa_nil)))
      (pss_cons (ps_expr (pe_bm PySem.F.plainAttrs_list PySem.F.slot_list_append PySem.F.type_list_append mt_append (pv 1) (pa_cons (pe_lst (pa_cons pe_str (pa_cons pe_str (pa_cons pe_str pa_nil)))) pa_nil)))
      (pss_one (ps_ret (pv 1))))))))))))))), ?_⟩
    obtain ⟨B, k⟩ := h
    refine q_lst1 (xs := [.str "stop", .str "0"]) (el_lst (ea_cons ev_c (ea_cons ev_c ea_nil)) (by simp)) fun p l H1 e1 h1 hl => ?_
    have hlH : H l = none := fresh_back e1 hl
    have I1 : LI H (upd H1 l (.lst [.ref p])) b c cells l 1 1 8 := ⟨Ex.toS (e1.trans (Ex.new hl)), ⟨a, r, s, B.ex (e1.trans (Ex.new hl))⟩, [["stop", "0"]], ⟨[p], upd_same, rfl, fun i x ws hx hw => by
      cases i with
      | zero =>
        cases hx; cases hw
        rw [upd_ne (ne_of_none h1 hl)]
        exact h1
      | succ i => cases hx⟩, ⟨Nat.le_refl _, Nat.le_refl _, by decide, by decide +kernel⟩⟩
    generalize upd H1 l (.lst [.ref p]) = G1 at I1
    have hc := B.ce
    clear e1 h1 hl
    obtain ⟨a1, r1, s1, B1⟩ := I1.B
    refine q_seq (s_forRA (op_any (ev_go ev_c fun H2 e2 => call_R (vs := [.ref b, .int 4]) (ea_cons (ev_var rfl) (ea_cons ev_c ea_nil)) fun H3 e3 => ⟨b, 4, c, cells, a1, r1, s1, rfl, by decide, by decide, B1.ex (e2.trans e3), fun z G2 a2 r2 s2 hz0 hz1 S2 B2 => ⟨1, z, rfl, rfl, ?_⟩⟩)))
    have I2 := (I1.ex (e2.trans e3)).drawn S2 B2
    refine s_forR1 (n := 1 + z) (ea_cons ev_c ea_nil) (by omega) (fun i σ' G' => i ≤ 4 ∧ LI H G' b c cells l (1 + i) (1 + i) 8 ∧ ∃ wv, σ' = [some (V.ref b), some (.ref l), wv, none]) (fun G' e => ⟨by omega, I2.ex e, none, rfl⟩) (fun i σ' G' hi hP => ?_) (fun σ' G' hP => ?_)
    · obtain ⟨_, I3, wv, rfl⟩ := hP
      dsimp only [List.set]
      have hi4 : i < 4 := by omega
      obtain ⟨x, hx⟩ : ∃ x, ("abcd" : Str).cps.toList[i]? = some x := ⟨_, List.getElem?_eq_getElem (show i < 4 from hi4)⟩
      refine s_appLI (ws := ["form", toString (1 + (i : Int)), ⟨#[x]⟩ ++ "z", "1", if (i : Int) > 0 then "next" else "end"]) I3 hlH hc (by omega) (ev_var rfl) (el_lst (vs := [_, _, _, _, _]) (ea_cons ev_c (ea_cons (ev_cb (ea_cons (ev_op ev_c (ev_var rfl) rv_I0) ea_nil) ?_) (ea_cons ?_ (ea_cons ev_c (ea_cons ?_ ea_nil))))) (by simp)) (by simp) ?_ fun G'' I4 => ⟨by omega, ?_, _, rfl⟩
      · exact rc_strI (by omega)
      · exact ev_op (ev_op ev_c (ev_var rfl) (rv_ixS2 (by rw [sizeLine_eq]; decide) (atI_nat hx))) ev_c (rv_adds (Nat.le_trans (show 2 ≤ 3 by decide) (by rw [sizeLine_eq]; decide)))
      · refine ev_opL1 (xs := [.str "end", .str "next"]) (y := .int (if decide ((i : Int) > 0) = true then 1 else 0)) (el_lst (ea_cons ev_c (ea_cons ev_c ea_nil)) (by simp)) (fun H1 e => ev_cb (ea_cons (ev_op (ev_var rfl) ev_c rv_I0) ea_nil) rc_int_b) fun p H1 h1 e => rv_ixL (sq_of h1) ?_
        by_cases h : (i : Int) > 0
        · simp only [h, decide_true, if_true]; rfl
        · simp only [h, decide_false, if_false]; rfl
      · exact form_ok i hi4 x hx
      · have e : 1 + i + 1 = 1 + (i + 1) := by omega
        rw [← e]; exact I4
    · obtain ⟨hle, I3, wv, rfl⟩ := hP
      have up : ∀ {G lo n}, n ≤ 14 → LI H G b c cells l lo n 8 → n ≤ 1000 := fun h _ => by omega
      have hn5 : 1 + (1 + z).toNat ≤ 5 := by omega
      have I3 : LI H G' b c cells l 0 5 8 := I3.weak hn5
      refine q_appLI (ws := ["layout", "2", "4"]) I3 hlH hc (by omega) (ev_var rfl) (el_lst (vs := [_, _, _]) (ea_cons ev_c (ea_cons ev_c (ea_cons ev_c ea_nil))) (by simp)) (by simp) (by decide +kernel) fun G4 I4 => ?_
      obtain ⟨a4, r4, s4, B4⟩ := I4.B
      refine q_asgG (op_any (ev_go ev_c fun H5 e5 => call_R (vs := [.ref b, .int 4]) (ea_cons (ev_var rfl) (ea_cons ev_c ea_nil)) fun H6 e6 => ⟨b, 4, c, cells, a4, r4, s4, rfl, by decide, by decide, B4.ex (e5.trans e6), fun z6 G6 a6 r6 s6 hz60 hz61 S6 B6 => ⟨3, z6, rfl, rfl, ?_⟩⟩))
      have I6 := (I4.ex (e5.trans e6)).drawn S6 B6
      have hz6 : ((3 : Int) + z6).toNat ≤ 6 := by omega
      have hint : -(2 ^ 62) ≤ (3 : Int) + z6 ∧ (3 : Int) + z6 < 2 ^ 62 := by constructor <;> omega
      refine q_appLI (ws := onesOf "old" ((3 : Int) + z6).toNat) I6 hlH hc (by omega) (ev_var rfl) (by rw [ones_map]; exact el_catLL (el_lst (ea_cons ev_c ea_nil) (by simp)) (el_lcM (ys := List.range ((3 : Int) + z6).toNat) (ex := fun i => V.int (0 + (i : Nat))) (fun _ => V.str "1") (ei_r1 (ea_cons (ev_var rfl) ea_nil) hint) (by rw [List.length_range, sizeLine_eq]; omega) (fun x => rfl) (fun y hy => ev_c)) (by rw [List.length_map, List.length_range, sizeLine_eq]; simp; omega)) (by simp [onesOf]; omega) (ones_ok (by decide +kernel)) fun G7 I7 => ?_
      refine q_appLI (ws := onesOf "new" ((3 : Int) + z6).toNat) I7 hlH hc (by omega) (ev_var rfl) (by rw [ones_map]; exact el_catLL (el_lst (ea_cons ev_c ea_nil) (by simp)) (el_lcM (ys := List.range ((3 : Int) + z6).toNat) (ex := fun i => V.int (0 + (i : Nat))) (fun _ => V.str "1") (ei_r1 (ea_cons (ev_var rfl) ea_nil) hint) (by rw [List.length_range, sizeLine_eq]; omega) (fun x => rfl) (fun y hy => ev_c)) (by rw [List.length_map, List.length_range, sizeLine_eq]; simp; omega)) (by simp [onesOf]; omega) (ones_ok (by decide +kernel)) fun G8 I8 => ?_
      refine q_appLI (ws := ["entries", "0", "2"]) I8 hlH hc (by omega) (ev_var rfl) (el_lst (vs := [_, _, _]) (ea_cons ev_c (ea_cons ev_c (ea_cons ev_c ea_nil))) (by simp)) (by simp) (by decide +kernel) fun G9 I9 => ?_
      refine q_cut (M := fun σ' G' => LI H G' b c cells l 0 10 8 ∧ σ' = [some (V.ref b), some (.ref l), wv, some (.int (3 + z6))]) ?_ fun σ' G10 hM => ?_
      · obtain ⟨a9, r9, s9, B9⟩ := I9.B
        refine s_whenA (op_any (call_R (vs := [.ref b, .int 2]) (ea_cons (ev_var rfl) (ea_cons ev_c ea_nil)) fun H10 e10 => ⟨b, 2, c, cells, a9, r9, s9, rfl, by decide, by decide, B9.ex e10, fun z G a' r' s' h0 h1 S' B' => ⟨rfl, _, rfl, ?_⟩⟩))
        have I10 := (I9.ex e10).drawn S' B'
        split
        · refine s_appLI (ws := ["standing", "1"]) I10 hlH hc (by omega) (ev_var rfl) (el_lst (vs := [_, _]) (ea_cons ev_c (ea_cons ev_c ea_nil)) (by simp)) (by simp) (by decide +kernel) fun G9 I11 => ⟨I11.weak (Nat.le_refl _), rfl⟩
        · exact ⟨I10.weak (by omega), rfl⟩
      obtain ⟨I10, rfl⟩ := hM
      refine q_cut (M := fun σ' G' => LI H G' b c cells l 0 11 8 ∧ σ' = [some (V.ref b), some (.ref l), wv, some (.int (3 + z6))]) ?_ fun σ' G11 hM => ?_
      · obtain ⟨a9, r9, s9, B9⟩ := I10.B
        refine s_whenA (op_any (call_R (vs := [.ref b, .int 2]) (ea_cons (ev_var rfl) (ea_cons ev_c ea_nil)) fun H10 e10 => ⟨b, 2, c, cells, a9, r9, s9, rfl, by decide, by decide, B9.ex e10, fun z G a' r' s' h0 h1 S' B' => ⟨rfl, _, rfl, ?_⟩⟩))
        have I10' := (I10.ex e10).drawn S' B'
        split
        · obtain ⟨rows, R, O⟩ := I10'.R
          obtain ⟨as, hl1, _⟩ := id R
          refine s_appX rfl hl1 (op_any ((el_lst (vs := [.str "crossings"]) (ea_cons ev_c ea_nil) (by simp)) G (Ex.refl G) _ fun p H1 hp e1 h1 => lc_RA (call_R (vs := [.ref b, .int 3]) (ea_cons (ev_var rfl) (ea_cons ev_c ea_nil)) fun H2 e2 => ⟨b, 3, c, cells, a', r', s', rfl, by decide, by decide, B'.ex (e1.trans e2), fun zz G3 a3 r3 s3 hz0 hz1 S3 B3 => ?_⟩)))
          have I3 := (I10'.ex (e1.trans e2)).drawn S3 B3
          have hpb : p ≠ b := ne_of h1 (B'.ex e1).ob (by simp)
          have hp3 : G3 p = some (.lst [.str "crossings"]) := S3 _ _ hpb (e2 _ _ h1)
          refine (el_lcM (ys := List.range zz.toNat) (ex := fun i => V.int (0 + (i : Nat))) (fun i => V.str (toString (2 * (0 + (i : Nat) : Int)))) (ei_r1 (ea_cons ev_c ea_nil) (by constructor <;> omega)) (by rw [List.length_range, sizeLine_eq]; omega) (fun x => rfl) (fun y hy => ev_cb (ea_cons (ev_op ev_c (ev_var rfl) (rv_I (.inl (by decide)))) ea_nil) (rc_strI (by have := List.mem_range.mp hy; omega)))) G3 (Ex.refl G3) _ fun q H4 _ e4 h4 => ?_
          refine ⟨p, q, [.str "crossings"], _, rfl, rfl, e4 _ _ hp3, h4, by rw [List.length_map, List.length_range, sizeLine_eq]; simp; omega, fun t ht => ?_⟩
          have I4 := I3.ex e4
          obtain ⟨rows4, R4, O4⟩ := I4.R
          have et : Ex H4 (upd H4 t (.lst ([V.str "crossings"] ++ (List.range zz.toNat).map fun i => V.str (toString (2 * (0 + (i : Nat) : Int)))))) := Ex.new ht
          obtain ⟨xs, hx, hxl, R5⟩ := Rows.app (p := t) (ws := "crossings" :: (List.range zz.toNat).map fun i => toString (2 * (0 + (i : Nat) : Int))) R4 et ht (by rw [upd_same, List.map_cons, List.map_map]; rfl)
          refine ⟨l, xs, _, rfl, rfl, et _ _ hx, by have := O4.len; rw [sizeLine_eq]; omega, ?_⟩
          refine ⟨LI.weak (lo := 0 + 1) ⟨ExS.mut (I4.S.ex et) (.inr hlH), ?_, _, R5, O4.app ?_ ?_⟩ (Nat.le_refl _), rfl⟩
          · obtain ⟨a5, r5, s5, B5⟩ := I4.B
            have B5 := B5.ex et
            exact ⟨a5, r5, s5, by rw [upd_ne (ne_of B5.ob (et _ _ hx) (by simp))]; exact B5.ob, by rw [upd_ne (fun z : c = l => by rw [z, hlH] at hc; cases hc)]; exact B5.ce, B5.le, B5.a0, B5.a1, B5.r0, B5.s0, B5.s1⟩
          · simp; omega
          · intro w hw
            rcases List.mem_cons.mp hw with hw | hw
            · rw [hw]; decide +kernel
            · obtain ⟨y, hy, rfl⟩ := List.mem_map.mp hw
              exact even_ok y (by have := List.mem_range.mp hy; omega)
        · exact ⟨I10'.weak (by omega), rfl⟩
      obtain ⟨I11, rfl⟩ := hM
      refine q_appLI (ws := ["answer", "0", "wait"]) I11 hlH hc (by omega) (ev_var rfl) (el_lst (vs := [_, _, _]) (ea_cons ev_c (ea_cons ev_c (ea_cons ev_c ea_nil))) (by simp)) (by simp) (by decide +kernel) fun G12 I12 => ?_
      refine q_appLI (ws := ["answer", "2", "to", "0"]) I12 hlH hc (by omega) (ev_var rfl) (el_lst (vs := [_, _, _, _]) (ea_cons ev_c (ea_cons ev_c (ea_cons ev_c (ea_cons ev_c ea_nil)))) (by simp)) (by simp) (by decide +kernel) fun G13 I13 => ?_
      refine q_appLI (ws := ["stretch", "1", "3"]) I13 hlH hc (by omega) (ev_var rfl) (el_lst (vs := [_, _, _]) (ea_cons ev_c (ea_cons ev_c (ea_cons ev_c ea_nil))) (by simp)) (by simp) (by decide +kernel) fun G14 I14 => ?_
      exact s_ret (ev_var rfl) fun G15 e15 => k l G15 hlH ((I14.ex e15).weak (Nat.le_refl _))
open PySem PySem.Spec PyProof.Rows L2 Evl Hb TL
theorem canLay_strs : ∀ {xs : List Str}, (∀ x ∈ xs, PyData.strOk x = true) → PyData.canLayAll0 (xs.map PyData.str) = true
  | [], _ => rfl
  | x :: xs, h => by
    have h1 := h x (List.mem_cons_self ..)
    have h2 := canLay_strs (xs := xs) fun y hy => h y (List.mem_cons_of_mem _ hy)
    simp [PyData.canLayAll0, PyData.canLay0, h1, h2]
theorem depth_strs : ∀ {xs : List Str}, PyData.depthAll (xs.map PyData.str) = 0
  | [] => rfl
  | x :: xs => by simp [PyData.depthAll, PyData.depth, depth_strs (xs := xs)]
theorem shaped_strs {xs : List Str} (h : ∀ x ∈ xs, PyData.strOk x = true) : SeqAt.shaped (.list (xs.map PyData.str)) = true := by
  simp [SeqAt.shaped, PyData.canLay0, PyData.depth, canLay_strs h, depth_strs]
theorem wok_strOk {w : Str} (h : WOk w = true) : PyData.strOk w = true := CpOk.strOk fun c hc => by
  unfold WOk at h
  rw [Bool.and_eq_true] at h
  have h2 := List.all_eq_true.mp h.2 c hc
  simp only [Bool.and_eq_true, decide_eq_true_iff] at h2
  omega
theorem dp_strs {K : PySem.W.Frag} {H : Hp} : ∀ {xs : List Str}, DpAll K H (xs.map V.str) (xs.map PyData.str)
  | [] => .nil
  | x :: xs => .cons (.str _) dp_strs
theorem eqv_nilS {xs : List Str} : PyData.eqv (.list (xs.map PyData.str)) (.list []) = decide (xs = []) := by
  cases xs with
  | nil => rfl
  | cons x xs => simp [PyData.eqv, PyData.eqvAll]
theorem rv_eqNil {K : PySem.W.Frag} {H : Hp} {p q : Addr} {xs : List Str} (hok : ∀ x ∈ xs, PyData.strOk x = true) (hp : SqL K H p (xs.map V.str)) (hq : H q = some (.lst [])) : RV (rEqD K) (.ref p) (.ref q) H (.bl (decide (xs = []))) := fun H1 e Q k =>
  ⟨.list (xs.map PyData.str), .list [], .lst (ex_l e hp) dp_strs, .lst (sq_of (e q _ hq)) .nil, shaped_strs hok, by decide, by rw [eqv_nilS]; exact k H1 (Ex.refl H1)⟩
open PySem PySem.Spec PyProof.Rows L2 Evl Hb TL
theorem six_nat {n k d : Nat} : HT.sIx n d (some (k : Int)) = min k n := by
  unfold HT.sIx
  simp only []
  split <;> omega
theorem cut_from (xs : List V) (k : Nat) : cutV xs (some (k : Int)) none = xs.drop k := by
  unfold cutV
  rw [six_nat, show HT.sIx xs.length xs.length none = xs.length from rfl]
  by_cases h : k ≤ xs.length
  · rw [Nat.min_eq_left h, List.take_of_length_le (by rw [List.length_drop]; omega)]
  · rw [Nat.min_eq_right (by omega), List.drop_length, List.drop_eq_nil_of_le (by omega), List.take_nil]
theorem cut_midS (xs : List V) (k j : Nat) : cutV xs (some (k : Int)) (some (j : Int)) = (xs.drop k).take (j - k) := by
  unfold cutV
  rw [six_nat, six_nat]
  by_cases h : k ≤ xs.length
  · rw [Nat.min_eq_left h]
    by_cases h2 : j ≤ xs.length
    · rw [Nat.min_eq_left h2]
    · rw [Nat.min_eq_right (by omega), List.take_of_length_le (by rw [List.length_drop]; omega), List.take_of_length_le (by rw [List.length_drop]; omega)]
  · rw [Nat.min_eq_right (show xs.length ≤ k by omega), List.drop_length, List.drop_eq_nil_of_le (by omega)]; simp
structure RL (H : Hp) (as : List Addr) (rows : List (List Str)) : Prop where
  len : as.length = rows.length
  at_ : ∀ (i : Nat) a ws, as[i]? = some a → rows[i]? = some ws → H a = some (.lst (ws.map V.str))
theorem RL.ex {H H' : Hp} {as : List Addr} {rows : List (List Str)} (h : RL H as rows) (e : Ex H H') : RL H' as rows := ⟨h.len, fun i a ws h1 h2 => e _ _ (h.at_ i a ws h1 h2)⟩
theorem RL.take {H : Hp} {as : List Addr} {rows : List (List Str)} (h : RL H as rows) (k : Nat) : RL H (as.take k) (rows.take k) := ⟨by rw [List.length_take, List.length_take, h.len], fun i a ws h1 h2 => by
  rw [List.getElem?_take] at h1 h2
  split at h1
  · rename_i hk
    rw [if_pos hk] at h2
    exact h.at_ i a ws h1 h2
  · cases h1⟩
theorem RL.drop {H : Hp} {as : List Addr} {rows : List (List Str)} (h : RL H as rows) (k : Nat) : RL H (as.drop k) (rows.drop k) := ⟨by rw [List.length_drop, List.length_drop, h.len], fun i a ws h1 h2 => by
  rw [List.getElem?_drop] at h1 h2
  exact h.at_ _ a ws h1 h2⟩
theorem RL.one {H : Hp} {p : Addr} {ws : List Str} (h : H p = some (.lst (ws.map V.str))) : RL H [p] [ws] := ⟨rfl, fun i a vs h1 h2 => by
  cases i with
  | zero => cases h1; cases h2; exact h
  | succ i => cases h1⟩
theorem RL.app {H : Hp} {as bs : List Addr} {r1 r2 : List (List Str)} (h : RL H as r1) (k : RL H bs r2) : RL H (as ++ bs) (r1 ++ r2) := ⟨by rw [List.length_append, List.length_append, h.len, k.len], fun i a ws h1 h2 => by
  by_cases hi : i < as.length
  · rw [List.getElem?_append_left hi] at h1
    rw [List.getElem?_append_left (by rw [← h.len]; exact hi)] at h2
    exact h.at_ i a ws h1 h2
  · rw [List.getElem?_append_right (by omega)] at h1
    rw [List.getElem?_append_right (by rw [← h.len]; omega), ← h.len] at h2
    exact k.at_ _ a ws h1 h2⟩
theorem LOk.sub {lo n m n' : Nat} {rows rows' : List (List Str)} {m' : Nat} (h : LOk lo n m rows) (hm : m ≤ m') (h2 : ∀ ws ∈ rows', ws ∈ rows ∨ (ws.length ≤ m' ∧ ∀ w ∈ ws, WOk w = true)) (lo' : Nat) (hl : lo' ≤ rows'.length) (hn : rows'.length ≤ n') : LOk lo' n' m' rows' :=
  ⟨hl, hn, fun ws hw => (h2 ws hw).elim (fun z => Nat.le_trans (h.wid ws z) hm) (fun z => z.1), fun ws hw => (h2 ws hw).elim (h.wok ws) (fun z => z.2)⟩
open PySem PySem.Spec PyProof.Rows L2 Evl Hb TL
structure SI (H G : Hp) (b c : Addr) (cells : List Int) (l : Addr) (as : List Addr) (rows : List (List Str)) : Prop where
  S : ExS (oneA b) H G
  B : ∃ a r s, BagAt G b c cells a r s
  B0 : ∃ a r s, BagAt H b c cells a r s
  L0 : H l = some (.lst (as.map V.ref))
  R0 : RL H as rows
section
variable {H G G' : Hp} {b c l p : Addr} {cells : List Int} {as : List Addr} {rows : List (List Str)} {σ : L2.St} {Q : VK} {E : L2.St → XK} {K : PySem.W.Frag}
theorem SI.keep (I : SI H G b c cells l as rows) {xs : List V} (e : ExS (oneA b) G G') (h : G p = some (.lst xs)) : G' p = some (.lst xs) := by
  obtain ⟨a, r, s, B⟩ := I.B
  exact e _ _ (ne_of h B.ob (by simp)) h
theorem SI.L (I : SI H G b c cells l as rows) : G l = some (.lst (as.map V.ref)) := by
  obtain ⟨a, r, s, B⟩ := I.B0
  exact I.S _ _ (ne_of I.L0 B.ob (by simp)) I.L0
theorem SI.R (I : SI H G b c cells l as rows) : RL G as rows := by
  obtain ⟨a, r, s, B⟩ := I.B0
  exact ⟨I.R0.len, fun i x ws h1 h2 => I.S _ _ (ne_of (I.R0.at_ i x ws h1 h2) B.ob (by simp)) (I.R0.at_ i x ws h1 h2)⟩
theorem SI.ex (I : SI H G b c cells l as rows) (e : Ex G G') : SI H G' b c cells l as rows := ⟨I.S.ex e, I.B.imp fun a ⟨r, s, B⟩ => ⟨r, s, B.ex e⟩, I.B0, I.L0, I.R0⟩
theorem SI.mut (I : SI H G b c cells l as rows) {o : HO} (hp : H p = none) : SI H (upd G p o) b c cells l as rows := by
  refine ⟨ExS.mut I.S (.inr hp), ?_, I.B0, I.L0, I.R0⟩
  obtain ⟨a0, r0, s0, B0⟩ := I.B0
  obtain ⟨a, r, s, B⟩ := I.B
  exact ⟨a, r, s, by rw [upd_ne (ne_of_none B0.ob hp)]; exact B.ob, by rw [upd_ne (ne_of_none B0.ce hp)]; exact B.ce, B.le, B.a0, B.a1, B.r0, B.s0, B.s1⟩
theorem SI.draw (I : SI H G b c cells l as rows) {tm : TE} {m : Int} (hσ : σ[0]? = some (some (.ref b))) (hm : Ev tm σ G (.int m)) (h0 : 0 < m) (h1 : m < 1073741824) (k : ∀ (z : Nat) G', (z : Int) < m → ExS (oneA b) G G' → SI H G' b c cells l as rows → Q (.int z) G') :
    Rr.tR sp_draw E (tCons (tVar 0) (tCons tm tNil)) σ G Q := call_R (vs := [.ref b, .int m]) (ea_cons (ev_var hσ) (ea_cons hm ea_nil)) fun H1 e1 => by
  obtain ⟨a, r, s, B⟩ := I.B
  refine ⟨b, m, c, cells, a, r, s, rfl, h0, h1, B.ex e1, fun z H2 a' r' s' z0 z1 S B' => ?_⟩
  obtain ⟨n, rfl⟩ := Int.eq_ofNat_of_zero_le z0
  exact k n H2 z1 ((Ex.toS e1).trans S) ⟨(I.S.ex e1).trans S, ⟨a', r', s', B'⟩, I.B0, I.L0, I.R0⟩
theorem SI.word (I : SI H G b c cells l as rows) (hσ : σ[0]? = some (some (.ref b))) (k : ∀ w G', WOk w = true → ExS (oneA b) G G' → SI H G' b c cells l as rows → Q (.str w) G') :
    Rr.tR sp_word E (tCons (tVar 0) tNil) σ G Q := call_R (vs := [.ref b]) (ea_cons (ev_var hσ) ea_nil) fun H1 e1 => by
  obtain ⟨a, r, s, B⟩ := I.B
  exact ⟨b, c, cells, a, r, s, rfl, B.ex e1, fun w H2 a' r' s' hw S B' => k w H2 hw ((Ex.toS e1).trans S) ⟨(I.S.ex e1).trans S, ⟨a', r', s', B'⟩, I.B0, I.L0, I.R0⟩⟩
def SpoilK (H : Hp) (b c : Addr) (cells : List Int) (lo n m : Nat) (Q : VK) : Prop := ∀ q H2 rows' a' r' s', ExS (oneA b) H H2 → BagAt H2 b c cells a' r' s' → Rows H2 q rows' → LOk lo n m rows' → Q (.ref q) H2
theorem SI.fin (I : SI H G b c cells l as rows) {te : TE} {X : List Addr} {rows' : List (List Str)} {lo n m : Nat} (k : SpoilK H b c cells lo n m Q) (h : EvL te σ G (X.map V.ref)) (R : RL G X rows') (O : LOk lo n m rows') : te σ G Q :=
  h G (Ex.refl G) _ fun q H2 _ e2 h2 => by
    obtain ⟨a, r, s, B⟩ := I.B
    exact k q H2 rows' a r s (I.S.ex e2) (B.ex e2) ⟨X, h2, R.len, fun i x ws h1 h3 => e2 _ _ (R.at_ i x ws h1 h3)⟩ O
theorem SI.elTo (I : SI H G b c cells l as rows) {tk : TE} {k : Nat} (h1 : σ[1]? = some (some (.ref l))) (hk : Ev tk σ G (.int k)) : EvL (tSl (rSlL K) (tVar 1) tNoPart (tPart tk)) σ G ((as.take k).map V.ref) := by
  have h := el_sl (ev_var h1) eo_none (eo_some hk) (sq_of (K := K) I.L)
  rw [cut_to, ← List.map_take] at h
  exact h
theorem SI.elFrom (I : SI H G b c cells l as rows) {tk : TE} {k : Nat} (h1 : σ[1]? = some (some (.ref l))) (hk : Ev tk σ G (.int k)) : EvL (tSl (rSlL K) (tVar 1) (tPart tk) tNoPart) σ G ((as.drop k).map V.ref) := by
  have h := el_sl (ev_var h1) (eo_some hk) eo_none (sq_of (K := K) I.L)
  rw [cut_from, ← List.map_drop] at h
  exact h
end
theorem el_nest {te : TE} {σ : L2.St} {H : Hp} {xs : List V} (h : EvL te σ H xs) : ∀ H1, Ex H H1 → ∀ Q : VK, (∀ p q H2, H1 p = none → Ex H1 H2 → H2 q = some (.lst xs) → H2 p = some (.lst [.ref q]) → Q (.ref p) H2) → tLst (tCons te tNil) σ H1 Q :=
  fun H1 e Q k => h H1 e _ fun q H2 _ e2 h2 => ⟨by rw [sizeLine_eq]; simp, fun p hp => k p q _ (fresh_back e2 hp) (e2.trans (Ex.new hp)) (by rw [upd_ne (ne_of_none h2 hp)]; exact h2) upd_same⟩
theorem ev_succ {te : TE} {σ : L2.St} {H : Hp} {k : Nat} (h : Ev te σ H (.int k)) : Ev (tOp (rI0 fun i j => .int (i + j)) te (tC (.int 1))) σ H (.int ((k + 1 : Nat) : Int)) := ev_op h ev_c rv_I0
theorem ev_add2 {te : TE} {σ : L2.St} {H : Hp} {k : Nat} (h : Ev te σ H (.int k)) : Ev (tOp (rI0 fun i j => .int (i + j)) te (tC (.int 2))) σ H (.int ((k + 2 : Nat) : Int)) := ev_op h ev_c rv_I0
theorem mem_mid {α : Type} {xs ys zs : List α} {x : α} (h : x ∈ xs ++ ys ++ zs) : x ∈ xs ∨ x ∈ ys ∨ x ∈ zs := by
  rcases List.mem_append.mp h with h | h
  · rcases List.mem_append.mp h with h | h
    · exact .inl h
    · exact .inr (.inl h)
  · exact .inr (.inr h)
theorem LOk.put {lo n m : Nat} {rows : List (List Str)} {ws : List Str} (h : LOk lo n m rows) (k j : Nat) (hj : k ≤ rows.length) (hj1 : j ≤ k + 1) (hj2 : k ≤ j) (h1 : ws.length ≤ m + 1) (h2 : ∀ w ∈ ws, WOk w = true) : LOk (lo - 1) (n + 1) (m + 1) (rows.take k ++ [ws] ++ rows.drop j) := by
  refine h.sub (Nat.le_succ m) (fun x hx => ?_) _ ?_ ?_
  · rcases mem_mid hx with hx | hx | hx
    · exact .inl (List.mem_of_mem_take hx)
    · exact .inr (by rw [List.mem_singleton.mp hx]; exact ⟨h1, h2⟩)
    · exact .inl (List.mem_of_mem_drop hx)
  all_goals
    have := h.ge
    have := h.len
    simp only [List.length_append, List.length_take, List.length_drop, List.length_singleton]
    omega
def sp_spoil : Sp := fun vs H Q _ => ∃ (b l c : Addr) (cells : List Int) (a r s : Int) (rows : List (List Str)) (lo n m : Nat), vs = [.ref b, .ref l] ∧ BagAt H b c cells a r s ∧ Rows H l rows ∧ LOk lo n m rows ∧ 1 ≤ lo ∧ n ≤ 1000 ∧ 1 ≤ m ∧ m ≤ 1000 ∧
  SpoilK H b c cells (lo - 1) (n + 1) (m + 1) Q
theorem ok__law_spoil {P : Program} {w : World} {K : PySem.W.Frag} {mg : Str → Option Value} {base : Heap} (T : Txt P K mg) : FnR P w K mg base (CX0) 3 (f__law_spoil K) (sp_spoil) := by
  obtain ⟨fd, F⟩ := T.F__law_spoil
  have F__law_draw := ok__law_draw (w := w) (base := base) T
  have F__law_word := ok__law_word (w := w) (base := base) T
  refine Rr.fnR_ok (F.ok sc__law_spoil (fun vs H Q E h => ?_) (fun cdv A outer s H vs Q E hr h => ?_)) (F.bindsN fun _ _ _ _ _ _ us hl => match us, hl with | [_, _], _ => rfl)
  · obtain ⟨b, l, c, cells, a, r, s, rows, lo, n, m, rfl, _⟩ := h
    rfl
  · obtain ⟨b, l, c, cells, a, r, s, rows, lo, n, m, rfl, h⟩ := h
    have hr__law_draw : Room 1 _ := hr.mono (by decide)
    have hr__law_word : Room 2 _ := hr.mono (by decide)
    refine ⟨_, PSs.nox (pss_cons (ps_set (i := 2) sc__law_spoil.nd rfl (Or.inl rfl) (Rr.pe_cR F__law_draw hr__law_draw T.k__law_draw T.g__law_draw Rr.pass0 (pa_cons (pv 0) (pa_cons pe_int pa_nil))))
      (pss_cons (ps_set (i := 3) sc__law_spoil.nd rfl (Or.inl rfl) (Rr.pe_cR F__law_draw hr__law_draw T.k__law_draw T.g__law_draw Rr.pass0 (pa_cons (pv 0) (pa_cons (pe_callB call_len_seq rfl T.b_len (by decide +kernel) (pa_cons (pv 1) pa_nil)) pa_nil))))
      (pss_cons (ps_set (i := 4) sc__law_spoil.nd rfl (Or.inl rfl) (pe_callTy call_list_of rfl T.b_list (by decide +kernel) (pa_cons (pe_ix ix_list (pv 1) (pv 3) (fun _ _ => rfl)) pa_nil)))
      (pss_cut (ps_if (pt_cmpR (op_eqD hr.units) (pv 4) (pe_lst pa_nil) (nomark _)) (pss_one (ps_set (i := 4) sc__law_spoil.nd rfl (Or.inl rfl) (pe_lst (pa_cons pe_str pa_nil)))) pss_nil)
      (pss_cons (ps_set (i := 5) sc__law_spoil.nd rfl (Or.inl rfl) (Rr.pe_cR F__law_draw hr__law_draw T.k__law_draw T.g__law_draw Rr.pass0 (pa_cons (pv 0) (pa_cons (pe_callB call_len_seq rfl T.b_len (by decide +kernel) (pa_cons (pv 4) pa_nil)) pa_nil))))
      (pss_cons (ps_if (pt_cmpR op_lt (pv 2) pe_int (nomark _)) (pss_cons (ps_asg (Rr.pe_cR F__law_word hr__law_word T.k__law_word T.g__law_word Rr.pass0 (pa_cons (pv 0) pa_nil)) (pg_sub (pv 4) (pv 5) set_list))
      (pss_one (ps_ret (pe_op op_cat (pe_op op_cat (pe_slice sl_list (pv 1) po_none (po_some (pv 3))) (pe_lst (pa_cons (pv 4) pa_nil))) (pe_slice sl_list (pv 1) (po_some (pe_op op_add (pv 3) pe_int)) po_none))))) pss_nil)
      (pss_cons (ps_if (pt_cmpR op_eq (pv 2) pe_int (nomark _)) (pss_cons (ps_expr (pe_bm PySem.F.plainAttrs_list PySem.F.slot_list_insert PySem.F.type_list_insert mt_insert (pv 4) (pa_cons (Rr.pe_cR F__law_draw hr__law_draw T.k__law_draw T.g__law_draw Rr.pass0 (pa_cons (pv 0) (pa_cons (pe_op op_add (pe_callB call_len_seq rfl T.b_len (by decide +kernel) (pa_cons (pv 4) pa_nil)) pe_int) pa_nil))) (pa_cons (Rr.pe_cR F__law_word hr__law_word T.k__law_word T.g__law_word Rr.pass0 (pa_cons (pv 0) pa_nil)) pa_nil))))
      (pss_one (ps_ret (pe_op op_cat (pe_op op_cat (pe_slice sl_list (pv 1) po_none (po_some (pv 3))) (pe_lst (pa_cons (pv 4) pa_nil))) (pe_slice sl_list (pv 1) (po_some (pe_op op_add (pv 3) pe_int)) po_none))))) pss_nil)
      (pss_cons (ps_if (pt_cmpR op_eq (pv 2) pe_int (nomark _)) (pss_cons (ps_set (i := 6) sc__law_spoil.nd rfl (Or.inl rfl) (pe_op op_cat (pe_slice sl_list (pv 4) po_none (po_some (pv 5))) (pe_slice sl_list (pv 4) (po_some (pe_op op_add (pv 5) pe_int)) po_none)))
      (pss_one (ps_ret (pe_op op_cat (pe_op op_cat (pe_slice sl_list (pv 1) po_none (po_some (pv 3))) (pe_lst (pa_cons (pv 6) pa_nil))) (pe_slice sl_list (pv 1) (po_some (pe_op op_add (pv 3) pe_int)) po_none))))) pss_nil)
      (pss_cons (ps_if (pt_cmpR op_eq (pv 2) pe_int (nomark _)) (pss_one (ps_ret (pe_op op_cat (pe_slice sl_list (pv 1) po_none (po_some (pv 3))) (pe_slice sl_list (pv 1) (po_some (pe_op op_add (pv 3) pe_int)) po_none)))) pss_nil)
      (pss_cons (ps_if (pt_cmpR op_eq (pv 2) pe_int (nomark _)) (pss_one (ps_ret (pe_op op_cat (pe_op op_cat (pe_slice sl_list (pv 1) po_none (po_some (pv 3))) (pe_lst (pa_cons (pv 4) pa_nil))) (pe_slice sl_list (pv 1) (po_some (pv 3)) po_none)))) pss_nil)
      (pss_cons (ps_if (pt_cmpR op_eq (pv 2) pe_int (nomark _)) (pss_cons (ps_set (i := 7) sc__law_spoil.nd rfl (Or.inl rfl) (pe_op op_cat (pe_slice sl_list (pv 1) (po_some (pe_op op_add (pv 3) pe_int)) (po_some (pe_op op_add (pv 3) pe_int))) (pe_lst (pa_cons (pv 4) pa_nil))))
      (pss_one (ps_ret (pe_op op_cat (pe_op op_cat (pe_slice sl_list (pv 1) po_none (po_some (pv 3))) (pv 7)) (pe_slice sl_list (pv 1) (po_some (pe_op op_add (pv 3) pe_int)) po_none))))) pss_nil)
      (pss_cons (ps_set (i := 8) sc__law_spoil.nd rfl (Or.inl rfl) (Rr.pe_cR F__law_draw hr__law_draw T.k__law_draw T.g__law_draw Rr.pass0 (pa_cons (pv 0) (pa_cons (pe_op op_add (pe_callB call_len_seq rfl T.b_len (by decide +kernel) (pa_cons (pv 1) pa_nil)) pe_int) pa_nil))))
      (pss_one (ps_ret (pe_op op_cat (pe_op op_cat (pe_slice sl_list (pv 1) po_none (po_some (pv 8))) (pe_lst (pa_cons (pe_lst (pa_cons pe_str pa_nil)) pa_nil))) (pe_slice sl_list (pv 1) (po_some (pv 8)) po_none)))))))))))))))), ?_⟩
    obtain ⟨B, R, O, hlo, hn, hm1, hm, k⟩ := h
    obtain ⟨as, hl, hlen, hat⟩ := R
    have I0 : SI H H b c cells l as rows := ⟨ExS.refl _ _, ⟨a, r, s, B⟩, ⟨a, r, s, B⟩, hl, ⟨hlen, hat⟩⟩
    have hrl := O.ge
    have hrn := O.len
    show tSeq _ _ _ [some (V.ref b), some (.ref l), none, none, none, none, none, none, none] H
    refine q_asgG (I0.draw rfl ev_c (by decide) (by decide) fun kd G1 hkd S1 I1 => ?_)
    refine q_asgG (I1.draw (m := rows.length) rfl (ev_is (ev_cb (ea_cons (ev_var rfl) ea_nil) (rc_len_l (sq_of I1.L))) (by rw [List.length_map, hlen])) (by omega) (by omega) fun at_ G2 hat_ S2 I2 => ?_)
    have hatl : at_ < rows.length := by omega
    have hata : at_ < as.length := by omega
    have hx : as[at_]? = some as[at_] := List.getElem?_eq_getElem hata
    have hw : rows[at_]? = some rows[at_] := List.getElem?_eq_getElem hatl
    generalize as[at_] = x at hx
    generalize hws : rows[at_] = ws at hw
    have hmem := List.mem_of_getElem? hw
    have hxo := I2.R.at_ at_ x ws hx hw
    have hwl := O.wid ws hmem
    have hwo := O.wok ws hmem
    refine q_asgL (xs := ws.map V.str) (el_list (p := x) (ev_op (ev_var rfl) (ev_var rfl) (rv_ixL (sq_of I2.L) (atI_nat (by rw [List.getElem?_map, hx]; rfl)))) (sq_of hxo)) fun p G3 hp e3 hp3 => ?_
    have hpH : ∀ {G : Hp} {q : Addr}, SI H G b c cells l as rows → G q = none → H q = none := fun {G q} I h => by
      obtain ⟨_, _, _, B'⟩ := I.B
      cases hq : H q with
      | none => rfl
      | some o =>
        by_cases hqb : q = b
        · rw [hqb, B'.ob] at h; cases h
        · rw [I.S _ _ hqb hq] at h; cases h
    have hpn := hpH I2 hp
    have I3 := I2.ex e3
    refine q_cut (M := fun σ' G' => ∃ (p : Addr) (ws : List Str), σ' = [some (V.ref b), some (.ref l), some (.int kd), some (.int at_), some (.ref p), none, none, none, none] ∧ SI H G' b c cells l as rows ∧ H p = none ∧ G' p = some (.lst (ws.map V.str)) ∧ 1 ≤ ws.length ∧ ws.length ≤ m ∧ ∀ w ∈ ws, WOk w = true) ?_ fun σ' G4 hM => ?_
    · refine s_when (b := decide (ws = [])) (et_B (ev_opL (ev_var rfl) (el_lst ea_nil (by simp)) fun q H1 h1 e => rv_eqNil (fun w hw => wok_strOk (hwo w hw)) (ex_l e (sq_of hp3)) h1)) (fun hb H1 e1 => ?_) (fun hb H1 e1 => ?_)
      · exact s_asgL (xs := [V.str ""]) (el_lst (ea_cons ev_c ea_nil) (by simp)) fun q H2 hq e2 h2 => ⟨q, [""], rfl, I3.ex (e1.trans e2), hpH (I3.ex e1) hq, h2, by simp, hm1, by decide +kernel⟩
      · refine ⟨p, ws, rfl, I3.ex e1, hpn, e1 _ _ hp3, ?_, hwl, hwo⟩
        cases ws with
        | nil => simp at hb
        | cons w ws => simp
    clear hp3 hpn hp hwo hwl hxo hmem hw hws hx e3 I3
    obtain ⟨p, ws, rfl, I4, hpn, hp4, hw1, hwl, hwo⟩ := hM
    refine q_asgG (I4.draw (m := ws.length) rfl (ev_is (ev_cb (ea_cons (ev_var rfl) ea_nil) (rc_len_l (sq_of hp4))) (by rw [List.length_map])) (by omega) (by omega) fun pl G5 hpl S5 I5 => ?_)
    have hp5 := I4.keep S5 hp4
    have hpl' : pl < ws.length := by omega
    clear hp4 S5 I4
    have cat3 : ∀ {G σ} {p : Addr} {tp te2 : TE} {k2 : Nat} (ws : List Str), SI H G b c cells l as rows → σ[1]? = some (some (.ref l)) → σ[3]? = some (some (.int (at_ : Nat))) → G p = some (.lst (ws.map V.str)) → EvL tp σ G [V.ref p] → Ev te2 σ G (.int k2) → k2 ≤ at_ + 1 → at_ ≤ k2 → ws.length ≤ m + 1 → (∀ w ∈ ws, WOk w = true) →
        (tOp rCat (tOp rCat (tSl (rSlL K) (tVar 1) tNoPart (tPart (tVar 3))) tp) (tSl (rSlL K) (tVar 1) (tPart te2) tNoPart)) σ G Q := fun {G σ p tp te2 k2} ws I h1 h3 hp hp4 hk2 hk3 hk4 hw hok => by
      refine I.fin (X := as.take at_ ++ [p] ++ as.drop k2) (rows' := rows.take at_ ++ [ws] ++ rows.drop k2) k ?_ (((I.R.take at_).app (.one hp)).app (I.R.drop k2)) (O.put at_ k2 (by omega) hk3 hk4 hw hok)
      have h := el_catLL (el_catLL (I.elTo (K := K) h1 (ev_var h3)) hp4 (by rw [List.length_map, List.length_take, sizeLine_eq]; simp; omega)) (I.elFrom (K := K) h1 hk2) (by rw [List.length_append, List.length_map, List.length_map, List.length_take, List.length_drop, sizeLine_eq]; simp; omega)
      rw [List.map_append, List.map_append]
      exact h
    have one : ∀ {G σ} {i : Nat} {p : Addr}, σ[i]? = some (some (V.ref p)) → EvL (tLst (tCons (tVar i) tNil)) σ G [V.ref p] := fun h => el_lst (ea_cons (ev_var h) ea_nil) (by simp)
    -- a word for another
    refine q_when (b := decide ((kd : Int) < 2)) (et_B (ev_op (ev_var rfl) ev_c rv_I0)) (fun hb H6 e6 => ?_) (fun hb H6 e6 => ?_)
    · have I6 := I5.ex e6
      have hp6 := e6 _ _ hp5
      refine q_asgT (I6.word rfl fun w G7 hw S7 I7 => ⟨.ref p, rfl, .int pl, rfl, p, ws.map V.str, pl, pl, rfl, rfl, I6.keep S7 hp6, ixN_nat (by rw [List.length_map]; exact hpl'), ?_⟩)
      refine s_retG (cat3 (p := p) (ws.set pl w) (I7.mut hpn) rfl rfl (by rw [upd_same, List.map_set]) (one rfl) (ev_succ (ev_var rfl)) (Nat.le_refl _) (by omega) (by rw [List.length_set]; omega) fun x hx => ?_)
      rcases List.mem_or_eq_of_mem_set hx with hx | hx
      · exact hwo x hx
      · rw [hx]; exact hw
    have I6 := I5.ex e6
    have hp6 := e6 _ _ hp5
    clear hb e6 hp5 I5
    -- a word put in
    refine q_when (b := decide (V.int kd = V.int 2)) (et_B (ev_op (ev_var rfl) ev_c (rv_eq rfl))) (fun hb H7 e7 => ?_) (fun hb H7 e7 => ?_)
    · have I7 := I6.ex e7
      have hp7 := e7 _ _ hp6
      refine q_seq ⟨.ref p, rfl, .inl ⟨rfl, _, sq_of hp7⟩, ?_⟩
      refine I7.draw (m := ((ws.length + 1 : Nat) : Int)) rfl (ev_succ (ev_is (ev_cb (ea_cons (ev_var rfl) ea_nil) (rc_len_l (sq_of hp7))) (by rw [List.length_map]))) (by omega) (by omega) fun j G8 hj S8 I8 => ?_
      refine I8.word rfl fun w G9 hw S9 I9 => ?_
      refine ⟨p, ws.map V.str, j, .str w, rfl, rfl, I8.keep S9 (I7.keep S8 hp7), by rw [List.length_map, sizeLine_eq]; omega, by omega, by omega, ?_⟩
      dsimp only
      refine s_retG (cat3 (p := p) (ws.take j ++ [w] ++ ws.drop j) (I9.mut hpn) rfl rfl (by rw [upd_same, List.map_append, List.map_append, List.map_take, List.map_drop, List.map_cons, List.map_nil]; rfl) (one rfl) (ev_succ (ev_var rfl)) (Nat.le_refl _) (by omega) (by simp; omega) fun x hx => ?_)
      rcases mem_mid hx with hx | hx | hx
      · exact hwo x (List.mem_of_mem_take hx)
      · rw [List.mem_singleton.mp hx]; exact hw
      · exact hwo x (List.mem_of_mem_drop hx)
    have I7 := I6.ex e7
    have hp7 := e7 _ _ hp6
    clear hb e7 hp6 I6
    -- a word taken out
    refine q_when (b := decide (V.int kd = V.int 3)) (et_B (ev_op (ev_var rfl) ev_c (rv_eq rfl))) (fun hb H8 e8 => ?_) (fun hb H8 e8 => ?_)
    · have I8 := I7.ex e8
      have hp8 := e8 _ _ hp7
      have hl1 := el_sl (K := K) (σ := [some (V.ref b), some (.ref l), some (.int kd), some (.int at_), some (.ref p), some (.int pl), none, none, none]) (ev_var (i := 4) rfl) eo_none (eo_some (ev_var (i := 5) rfl)) (sq_of hp8)
      have hl2 := el_sl (K := K) (σ := [some (V.ref b), some (.ref l), some (.int kd), some (.int at_), some (.ref p), some (.int pl), none, none, none]) (ev_var (i := 4) rfl) (eo_some (ev_succ (ev_var (i := 5) rfl))) eo_none (sq_of hp8)
      rw [cut_to, ← List.map_take] at hl1
      rw [cut_from, ← List.map_drop] at hl2
      refine q_asgL (xs := (ws.take pl ++ ws.drop (pl + 1)).map V.str) ?_ fun q G9 hq e9 h9 => ?_
      · have h := el_catLL hl1 hl2 (by simp; rw [sizeLine_eq]; omega)
        rw [← List.map_append] at h
        exact h
      · have I9 := I8.ex e9
        refine s_retG (cat3 (p := q) (ws.take pl ++ ws.drop (pl + 1)) I9 rfl rfl h9 (one rfl) (ev_succ (ev_var rfl)) (Nat.le_refl _) (by omega) (by simp; omega) fun x hx => ?_)
        rcases List.mem_append.mp hx with hx | hx
        · exact hwo x (List.mem_of_mem_take hx)
        · exact hwo x (List.mem_of_mem_drop hx)
    have I8 := I7.ex e8
    have hp8 := e8 _ _ hp7
    clear hb e8 hp7 I7
    -- a line taken out
    refine q_when (b := decide (V.int kd = V.int 4)) (et_B (ev_op (ev_var rfl) ev_c (rv_eq rfl))) (fun hb H9 e9 => ?_) (fun hb H9 e9 => ?_)
    · have I9 := I8.ex e9
      refine s_retG (I9.fin (X := as.take at_ ++ as.drop (at_ + 1)) (rows' := rows.take at_ ++ rows.drop (at_ + 1)) k ?_ ((I9.R.take at_).app (I9.R.drop (at_ + 1))) ?_)
      · rw [List.map_append]
        exact el_catLL (I9.elTo rfl (ev_var rfl)) (I9.elFrom rfl (ev_succ (ev_var rfl))) (by simp; rw [sizeLine_eq]; omega)
      · refine O.sub (Nat.le_succ m) (fun x hx => ?_) _ ?_ ?_
        · rcases List.mem_append.mp hx with hx | hx
          · exact .inl (List.mem_of_mem_take hx)
          · exact .inl (List.mem_of_mem_drop hx)
        · simp; omega
        · simp; omega
    have I9 := I8.ex e9
    have hp9 := e9 _ _ hp8
    clear hb e9 hp8 I8
    -- a line doubled
    refine q_when (b := decide (V.int kd = V.int 5)) (et_B (ev_op (ev_var rfl) ev_c (rv_eq rfl))) (fun hb H10 e10 => ?_) (fun hb H10 e10 => ?_)
    · exact s_retG (cat3 (p := p) ws (I9.ex e10) rfl rfl (e10 _ _ hp9) (one rfl) (ev_var rfl) (by omega) (Nat.le_refl _) (by omega) hwo)
    have I10 := I9.ex e10
    have hp10 := e10 _ _ hp9
    clear hb e10 hp9 I9
    -- a line exchanged with the next
    refine q_when (b := decide (V.int kd = V.int 6)) (et_B (ev_op (ev_var rfl) ev_c (rv_eq rfl))) (fun hb H11 e11 => ?_) (fun hb H11 e11 => ?_)
    · have I11 := I10.ex e11
      have hp11 := e11 _ _ hp10
      have hsl := el_sl (K := K) (σ := [some (V.ref b), some (.ref l), some (.int kd), some (.int at_), some (.ref p), some (.int pl), none, none, none]) (ev_var (i := 1) rfl) (eo_some (ev_succ (ev_var (i := 3) rfl))) (eo_some (ev_add2 (ev_var (i := 3) rfl))) (sq_of I11.L)
      rw [cut_midS, ← List.map_drop, ← List.map_take] at hsl
      have he : at_ + 2 - (at_ + 1) = 1 := by omega
      rw [he] at hsl
      have hs2 := el_catLL hsl (one (i := 4) (p := p) rfl) (by simp; rw [sizeLine_eq]; omega)
      refine q_asgL (xs := ((as.drop (at_ + 1)).take 1 ++ [p]).map V.ref) (by rw [List.map_append]; exact hs2) fun q G12 hq e12 h12 => ?_
      have I12 := I11.ex e12
      have hp12 := e12 _ _ hp11
      have hto := I12.elTo (K := K) (σ := [some (V.ref b), some (.ref l), some (.int kd), some (.int at_), some (.ref p), some (.int pl), none, some (.ref q), none]) (tk := tVar 3) (k := at_) rfl (ev_var rfl)
      have hfr := I12.elFrom (K := K) (σ := [some (V.ref b), some (.ref l), some (.int kd), some (.int at_), some (.ref p), some (.int pl), none, some (.ref q), none]) (k := at_ + 2) rfl (ev_add2 (ev_var (i := 3) rfl))
      refine s_retG (I12.fin (X := as.take at_ ++ ((as.drop (at_ + 1)).take 1 ++ [p]) ++ as.drop (at_ + 2)) (rows' := rows.take at_ ++ ((rows.drop (at_ + 1)).take 1 ++ [ws]) ++ rows.drop (at_ + 2)) k ?_ (((I12.R.take at_).app (((I12.R.drop (at_ + 1)).take 1).app (.one hp12))).app (I12.R.drop (at_ + 2))) ?_)
      · rw [List.map_append, List.map_append]
        refine el_catLL ?_ hfr (by simp; rw [sizeLine_eq]; omega)
        exact fun H1 e Q q => hto H1 e _ fun p1 H2 _ e2 h2 => (ev_var (i := 7) rfl) H2 (e.trans e2) _ fun H3 e3 => ⟨p1, _, _, _, rfl, rfl, e3 _ _ h2, ((e.trans e2).trans e3) _ _ h12, by simp; rw [sizeLine_eq]; omega, fun t ht => q t _ (fresh_back (e2.trans e3) ht) ((e2.trans e3).trans (Ex.new ht)) upd_same⟩
      · refine O.sub (Nat.le_succ m) (fun x hx => ?_) _ ?_ ?_
        · rcases mem_mid hx with hx | hx | hx
          · exact .inl (List.mem_of_mem_take hx)
          · rcases List.mem_append.mp hx with hx | hx
            · exact .inl (List.mem_of_mem_drop (List.mem_of_mem_take hx))
            · exact .inr (by rw [List.mem_singleton.mp hx]; exact ⟨by omega, hwo⟩)
          · exact .inl (List.mem_of_mem_drop hx)
        · simp; omega
        · simp; omega
    have I11 := I10.ex e11
    clear hb e11 hp10 I10
    -- an empty line put in
    refine q_asgG (I11.draw (m := ((rows.length + 1 : Nat) : Int)) rfl (ev_succ (ev_is (ev_cb (ea_cons (ev_var rfl) ea_nil) (rc_len_l (sq_of I11.L))) (by rw [List.length_map, hlen]))) (by omega) (by omega) fun j G12 hj S12 I12 => ?_)
    have hjr : j ≤ rows.length := by omega
    have hto := I12.elTo (K := K) (σ := [some (V.ref b), some (.ref l), some (.int kd), some (.int at_), some (.ref p), some (.int pl), none, none, some (.int j)]) (tk := tVar 8) (k := j) rfl (ev_var rfl)
    have hfr := I12.elFrom (K := K) (σ := [some (V.ref b), some (.ref l), some (.int kd), some (.int at_), some (.ref p), some (.int pl), none, none, some (.int j)]) (tk := tVar 8) (k := j) rfl (ev_var rfl)
    refine s_retG (hto G12 (Ex.refl _) _ fun p1 G13 _ e13 h13 => ?_)
    refine el_nest (xs := [V.str ""]) (el_lst (ea_cons ev_c ea_nil) (by simp)) G13 (Ex.refl _) _ fun p2 q G14 hp2 e14 hq14 h14 => ?_
    refine ⟨p1, p2, _, [.ref q], rfl, rfl, e14 _ _ h13, h14, by simp; rw [sizeLine_eq]; omega, fun t ht => ?_⟩
    have et : Ex G14 (upd G14 t (.lst ((as.take j).map V.ref ++ [.ref q]))) := Ex.new ht
    refine hfr _ ((e13.trans e14).trans et) _ fun p3 G15 _ e15 h15 => ?_
    refine ⟨t, p3, _, _, rfl, rfl, e15 _ _ upd_same, h15, by simp; rw [sizeLine_eq]; omega, fun t2 ht2 => ?_⟩
    have e2 : Ex G15 (upd G15 t2 (.lst ((as.take j).map V.ref ++ [.ref q] ++ (as.drop j).map V.ref))) := Ex.new ht2
    have I16 := I12.ex ((((e13.trans e14).trans et).trans e15).trans e2)
    obtain ⟨a', r', s', B'⟩ := I16.B
    have R16 := ((I16.R.take j).app (.one (p := q) (ws := [""]) (e2 _ _ (e15 _ _ (et _ _ hq14))))).app (I16.R.drop j)
    exact k t2 _ _ a' r' s' I16.S B' ⟨as.take j ++ [q] ++ as.drop j, by rw [upd_same, List.map_append, List.map_append]; rfl, R16.len, R16.at_⟩ (O.put j j hjr (by omega) (Nat.le_refl _) (by simp) (by decide +kernel))
open PySem PySem.Spec PyProof.Rows L2 Evl Hb TL
theorem rv_neNilS {K : PySem.W.Frag} {H : Hp} {p q : Addr} {xs : List Str} (hok : ∀ x ∈ xs, PyData.strOk x = true) (hp : SqL K H p (xs.map V.str)) (hq : H q = some (.lst [])) : RV (rNeD K) (.ref p) (.ref q) H (.bl (!decide (xs = []))) := fun H1 e Q k =>
  ⟨.list (xs.map PyData.str), .list [], .lst (ex_l e hp) dp_strs, .lst (sq_of (e q _ hq)) .nil, shaped_strs hok, by decide, by rw [eqv_nilS]; exact k H1 (Ex.refl H1)⟩
theorem filt_all {l : List Nat} : (!decide ((l.filter fun c => !digC c).map (fun c => (⟨#[c]⟩ : Str)) = [])) = !(l.all digC) := by
  congr 1
  induction l with
  | nil => rfl
  | cons c l ih =>
    cases h : digC c with
    | true => simp only [List.filter_cons, h, List.all_cons, Bool.not_true, Bool.true_and]; exact ih
    | false => simp [List.filter_cons, h, List.all_cons]
theorem sign_ok {z : Str} (h : PyData.strOk z = true) : ∀ c ∈ z.cps.toList, PyData.strOk ⟨#[c]⟩ = true := fun c hc => by
  unfold PyData.strOk at h ⊢
  rw [← Array.all_toList, List.all_eq_true] at h ⊢
  intro x hx
  have : x = c := by simpa using hx
  rw [this]
  exact h c hc
def sp_lnum : Sp := fun vs H Q _ => ∃ z : Str, vs = [.str z] ∧ z.length ≤ sizeLine ∧ PyData.strOk z = true ∧ RetV (.bl (isNum z)) H Q
theorem ok__law_number {P : Program} {w : World} {K : PySem.W.Frag} {mg : Str → Option Value} {base : Heap} (T : Txt P K mg) : FnR P w K mg base (CX0) 1 (f__law_number K) (sp_lnum) := by
  obtain ⟨fd, F⟩ := T.F__law_number
  refine Rr.fnR_ok (F.ok sc__law_number (fun vs H Q E h => ?_) (fun cdv A outer s H vs Q E hr h => ?_)) (F.bindsN fun _ _ _ _ _ _ us hl => match us, hl with | [_], _ => rfl)
  · obtain ⟨z, rfl, _⟩ := h
    rfl
  · obtain ⟨z, rfl, h⟩ := h
    refine ⟨_, PSs.nox (pss_cons (ps_if (PW.pt (pw_or (pt_cmpR op_lt (pe_callB call_len_str rfl T.b_len (by decide +kernel) (pa_cons (pv 0) pa_nil)) pe_int (nomark _)) (pw_or (pt_cmpR op_gt (pe_callB call_len_str rfl T.b_len (by decide +kernel) (pa_cons (pv 0) pa_nil)) pe_int (nomark _)) (pw_or1 (pt_cmpR (op_neD hr.units) (pe_lc (own := [("_law_sign", 1)]) (g := gName 1) (tt := _) rfl sc__law_number.nd (pi_str (pv 0)) (blkOk_by (N := N__law_number) (sc := defScope s__law_number) (by decide +kernel)) (fun _ _ _ _ _ => (pg_name (i := 1) sc__law_number.nd rfl (Or.inl rfl))) (fun _ _ _ _ _ => (pts_one (pt_cmpR op_notIn_sign (pv 1) pe_str (by rfl)))) (fun _ _ _ _ _ => (pv 1))) (pe_lst pa_nil) (nomark _)))))) (pss_one (ps_ret pe_bl)) pss_nil)
      (pss_one (ps_ret (pe_or (pe_cmpR op_eq (pv 0) pe_str (nomark _)) (pe_one (pe_and (pe_cmpR op_ne (pe_ix ix_str (pv 0) pe_int (fun _ _ => rfl)) pe_str (nomark _)) (pe_one (pe_cmpR op_lt (pe_callTy call_int_str rfl T.b_int (by decide +kernel) (pa_cons (pv 0) pa_nil)) pe_int (nomark _))))))))), ?_⟩
    obtain ⟨hz, hok, k⟩ := h
    show tSeq _ _ _ [some (V.str z), none] H
    refine q_when (b := decide (((z.length : Nat) : Int) < 1) || (decide (((z.length : Nat) : Int) > 3) || !(z.cps.toList.all digC))) ?_ ?_ ?_
    · refine et_or ?_ (fun _ => et_or ?_ (fun _ => et_B ?_))
      · walk_at "ev"
      · walk_at "ev"
      · refine ev_is (ev_opLL (xs := ((z.cps.toList.filter fun c => !digC c).map fun c => (⟨#[c]⟩ : Str)).map V.str) (ys := []) ?_ (el_lst ea_nil (by simp)) fun p q H1 hp hq e => rv_neNilS (fun x hx => ?_) (sq_of hp) hq) (by rw [filt_all])
        · rw [List.map_map]
          exact el_lc (ex := oneS) (fun c => !digC c) (fun c => V.str ⟨#[c]⟩) (ei_s (ev_var rfl)) (by rw [codes_len]; exact hz) (fun x => rfl) (fun c hc => et_B (ev_op (ev_var rfl) ev_c rv_notsign)) (fun c hc hf => ev_var rfl)
        · obtain ⟨c, hc, rfl⟩ := List.mem_map.mp hx
          exact sign_ok hok c (List.mem_filter.mp hc).1
    · intro hb H1 e1
      refine s_ret ev_c fun H2 e2 => ?_
      have hn : isNum z = false := by
        unfold isNum
        rw [show (decide (((z.length : Nat) : Int) < 1) || (decide ((3 : Int) < (z.length : Nat)) || !(z.cps.toList.all digC))) = true from hb]; rfl
      have := k H2 (e1.trans e2)
      rw [hn] at this
      exact this
    · intro hb H1 e1
      have hb' : (decide (((z.length : Nat) : Int) < 1) || (decide ((3 : Int) < (z.length : Nat)) || !(z.cps.toList.all digC))) = false := hb
      simp only [Bool.or_eq_false_iff, decide_eq_false_iff_not, Bool.not_eq_false'] at hb
      obtain ⟨h1, h2, h3⟩ := hb
      obtain ⟨c, hc⟩ : ∃ c, z.cps.toList[0]? = some c := by
        cases e : z.cps.toList with
        | nil => exact absurd (by rw [← codes_len, e]; decide) h1
        | cons c r => exact ⟨c, rfl⟩
      have ha : atI z.cps.toList 0 = some c := atI_nat (xs := z.cps.toList) (j := 0) (v := c) hc
      have hn := num_of (z := z) (by omega) (by omega) h3
      have hl : z.length ≤ 640 := by omega
      have ec : decide (V.str ⟨#[c]⟩ = V.str "0") = decide (c = 48) := by
        by_cases e : c = 48
        · subst e; rfl
        · rw [decide_eq_false e]
          refine decide_eq_false fun q => e ?_
          injection q with q
          have := congrArg (fun s : Str => s.cps.toList) q
          have e2 : ("0" : Str).cps.toList = [48] := by decide +kernel
          rw [e2] at this
          simpa using this
      have e255 : decide (numOf z < 256) = decide (numOf z ≤ 255) := by
        apply decide_eq_decide.mpr; omega
      have hi : isNum z = (decide (V.str z = V.str "0") || (!decide (V.str ⟨#[c]⟩ = V.str "0") && decide (numOf z < 256))) := by
        unfold isNum
        rw [hb', ec, hc, e255]
        by_cases e : z = "0"
        · simp [e]
        · have e' : ¬ (V.str z = V.str "0") := fun q => e (V.str.inj q)
          by_cases e2 : c = 48 <;> simp [e, e', e2]
      refine s_ret (v := .bl (isNum z)) (ev_is (ev_orV (a := decide (V.str z = V.str "0")) ?_ (fun _ => ev_andV (a := !decide (V.str ⟨#[c]⟩ = V.str "0")) (b := decide (numOf z < 256)) ?_ (fun _ => ?_))) (by rw [hi])) fun H2 e2 => k H2 (e1.trans e2)
      · walk_at "ev"
      · refine ev_op (ev_op (ev_var rfl) ev_c (rv_ixS2 hz ha)) ev_c (rv_ne rfl)
      · refine ev_op (ev_cb (ea_cons (ev_var rfl) ea_nil) (rc_int_str hn hl)) ev_c rv_I0
theorem sv_lnum {H : Hp} {z : Str} (h : z.length ≤ sizeLine) (ho : PyData.strOk z = true) : SpV sp_lnum [.str z] H (.bl (isNum z)) := fun H1 e Q q E => ⟨z, rfl, h, ho, q⟩
def lfits (z k : Str) : Bool := if k = "number" then isNum z else if k = "word" then !decide (z = "") else decide (z = k)
def sp_lfits : Sp := fun vs H Q _ => ∃ z k : Str, vs = [.str z, .str k] ∧ z.length ≤ sizeLine ∧ PyData.strOk z = true ∧ RetV (.bl (lfits z k)) H Q
theorem ok__law_fits {P : Program} {w : World} {K : PySem.W.Frag} {mg : Str → Option Value} {base : Heap} (T : Txt P K mg) : FnR P w K mg base (CX0) 2 (f__law_fits K) (sp_lfits) := by
  obtain ⟨fd, F⟩ := T.F__law_fits
  have F__law_number := ok__law_number (w := w) (base := base) T
  refine Rr.fnR_ok (F.ok sc__law_fits (fun vs H Q E h => ?_) (fun cdv A outer s H vs Q E hr h => ?_)) (F.bindsN fun _ _ _ _ _ _ us hl => match us, hl with | [_, _], _ => rfl)
  · obtain ⟨z, c, rfl, _⟩ := h
    rfl
  · obtain ⟨z, c, rfl, h⟩ := h
    have hr__law_number : Room 1 _ := hr.mono (by decide)
    refine ⟨_, PSs.nox (pss_cons (ps_if (pt_cmpR op_eq (pv 1) pe_str (nomark _)) (pss_one (ps_ret (Rr.pe_cR F__law_number hr__law_number T.k__law_number T.g__law_number Rr.pass0 (pa_cons (pv 0) pa_nil)))) pss_nil)
      (pss_cons (ps_if (pt_cmpR op_eq (pv 1) pe_str (nomark _)) (pss_one (ps_ret (pe_cmpR op_ne (pv 0) pe_str (nomark _)))) pss_nil)
      (pss_one (ps_ret (pe_cmpR op_eq (pv 0) (pv 1) (nomark _)))))), ?_⟩
    obtain ⟨hz, hok, k⟩ := h
    show tSeq _ _ _ [some (V.str z), some (V.str c)] H
    refine q_when (b := decide (V.str c = V.str "number")) (by walk_at "ev") (fun hb H1 e1 => ?_) (fun hb H1 e1 => ?_)
    · have e : c = "number" := by simpa [dec_str] using hb
      refine s_ret (v := .bl (lfits z c)) (ev_is (ev_R (ea_cons (ev_var rfl) ea_nil) (sv_lnum hz hok)) (by rw [lfits, if_pos e])) fun H2 e2 => k H2 (e1.trans e2)
    · have e : ¬ c = "number" := by simpa [dec_str] using hb
      refine q_when (b := decide (V.str c = V.str "word")) (by walk_at "ev") (fun hb H2 e2 => ?_) (fun hb H2 e2 => ?_)
      · have e' : c = "word" := by simpa [dec_str] using hb
        refine s_ret (v := .bl (lfits z c)) (ev_is (ev_op (ev_var rfl) ev_c (rv_ne rfl)) (by rw [lfits, if_neg e, if_pos e', dec_str])) fun H3 e3 => k H3 ((e1.trans e2).trans e3)
      · have e' : ¬ c = "word" := by simpa [dec_str] using hb
        refine s_ret (v := .bl (lfits z c)) (ev_is (ev_op (ev_var rfl) (ev_var rfl) (rv_eq rfl)) (by rw [lfits, if_neg e, if_neg e', dec_str])) fun H3 e3 => k H3 ((e1.trans e2).trans e3)
theorem sv_lfits {H : Hp} {z k : Str} (h : z.length ≤ sizeLine) (ho : PyData.strOk z = true) : SpV sp_lfits [.str z, .str k] H (.bl (lfits z k)) := fun H1 e Q q E => ⟨z, k, rfl, h, ho, q⟩
def lbad : List Str → List Str → Nat → Option Nat
  | [], [], _ => none
  | _ :: _, [], i => some i
  | [], _ :: _, i => some i
  | w :: ws, k :: ks, i => if lfits w k then lbad ws ks (i + 1) else some i
def optV : Option Nat → V
  | none => .non
  | some j => .int (j : Nat)
theorem lbad_step {ws ks : List Str} {i : Nat} {k : Str} (hk : ks[i]? = some k) : lbad (ws.drop i) (ks.drop i) i = match ws[i]? with
    | none => some i
    | some w => if lfits w k then lbad (ws.drop (i + 1)) (ks.drop (i + 1)) (i + 1) else some i := by
  have hk' : i < ks.length := (List.getElem?_eq_some_iff.mp hk).1
  have ek : ks.drop i = k :: ks.drop (i + 1) := by
    rw [List.drop_eq_getElem_cons hk']
    congr 1
    exact (List.getElem?_eq_some_iff.mp hk).2
  rw [ek]
  cases e : ws[i]? with
  | none =>
    rw [List.drop_eq_nil_of_le (List.getElem?_eq_none_iff.mp e)]
    rfl
  | some w =>
    obtain ⟨hw, rfl⟩ := List.getElem?_eq_some_iff.mp e
    rw [List.drop_eq_getElem_cons hw]
    rfl
structure Wds (ws : List Str) : Prop where
  sh : Short ws
  ok : ∀ w ∈ ws, PyData.strOk w = true
  ln : ws.length ≤ 30
def sp_lfixed (K : PySem.W.Frag) : Sp := fun vs H Q _ => ∃ (pw pk : Addr) (ws ks : List Str), vs = [.ref pw, .ref pk] ∧ SqL K H pw (ws.map V.str) ∧ SqL K H pk (ks.map V.str) ∧ Wds ws ∧ ks.length ≤ 30 ∧ RetV (optV (lbad ws ks 0)) H Q
theorem ok__law_fixed {P : Program} {w : World} {K : PySem.W.Frag} {mg : Str → Option Value} {base : Heap} (T : Txt P K mg) : FnR P w K mg base (CX0) 3 (f__law_fixed K) (sp_lfixed K) := by
  obtain ⟨fd, F⟩ := T.F__law_fixed
  have F__law_fits := ok__law_fits (w := w) (base := base) T
  refine Rr.fnR_ok (F.ok sc__law_fixed (fun vs H Q E h => ?_) (fun cdv A outer s H vs Q E hr h => ?_)) (F.bindsN fun _ _ _ _ _ _ us hl => match us, hl with | [_, _], _ => rfl)
  · obtain ⟨pw, pk, ws, ks, rfl, _⟩ := h
    rfl
  · obtain ⟨pw, pk, ws, ks, rfl, h⟩ := h
    have hr__law_fits : Room 2 _ := hr.mono (by decide)
    refine ⟨_, PSs.nox (pss_cons (ps_for PassesOwn.never rfl (pi_range1 rfl T.b_range (pa_cons (pe_callB call_len_seq rfl T.b_len (by decide +kernel) (pa_cons (pv 1) pa_nil)) pa_nil)) (pg_name (i := 2) sc__law_fixed.nd rfl (Or.inl rfl)) (pss_one (ps_if (PW.pt (pw_or (pt_cmpR op_ge (pv 2) (pe_callB call_len_seq rfl T.b_len (by decide +kernel) (pa_cons (pv 0) pa_nil)) (nomark _)) (pw_or1 (pt_not (pt_val (Rr.pe_cR F__law_fits hr__law_fits T.k__law_fits T.g__law_fits Rr.pass0 (pa_cons (pe_ix ix_list (pv 0) (pv 2) (fun _ _ => rfl)) (pa_cons (pe_ix ix_list (pv 1) (pv 2) (fun _ _ => rfl)) pa_nil)))))))) (pss_one (ps_ret (pv 2))) pss_nil)))
      (pss_cons (ps_if (pt_cmpR op_gt (pe_callB call_len_seq rfl T.b_len (by decide +kernel) (pa_cons (pv 0) pa_nil)) (pe_callB call_len_seq rfl T.b_len (by decide +kernel) (pa_cons (pv 1) pa_nil)) (nomark _)) (pss_one (ps_ret (pe_callB call_len_seq rfl T.b_len (by decide +kernel) (pa_cons (pv 1) pa_nil)))) pss_nil)
      (pss_one (ps_ret pe_non)))), ?_⟩
    obtain ⟨hw, hk, W, hkl, k⟩ := h
    show tSeq _ _ _ [some (V.ref pw), some (.ref pk), none] H
    refine q_forR1 (n := (ks.map V.str).length) (ea_cons (ev_cb (ea_cons (ev_var rfl) ea_nil) (rc_len_l hk)) ea_nil) (by rw [List.length_map]; omega) (fun i σ H' => ∃ x, σ = [some (V.ref pw), some (.ref pk), x] ∧ Ex H H' ∧ lbad ws ks 0 = lbad (ws.drop i) (ks.drop i) i) (fun H1 e => ⟨_, rfl, e, rfl⟩) (fun i σ H' hi p => ?_) (fun σ H' p => ?_)
    · obtain ⟨x, rfl, e, hb⟩ := p
      rw [List.length_map] at hi
      have hki : ks[i]? = some ks[i] := List.getElem?_eq_getElem (by omega)
      generalize ks[i] = kd at hki
      rw [lbad_step hki] at hb
      have hw2 := ex_l e hw
      have hk2 := ex_l e hk
      show tIfS _ _ _ _ [some (V.ref pw), some (.ref pk), some (.int (i : Nat))] H'
      refine s_when (b := decide (((i : Nat) : Int) ≥ ((ws.map V.str).length : Nat)) || !(ws[i]?.any fun w => lfits w kd)) (et_or ?_ (fun hge => et_not (et_B ?_))) (fun hbb H3 e3 => ?_) (fun hbb H3 e3 => ?_)
      · walk_at "ev"
      · have hlt : i < ws.length := by
          rw [List.length_map, decide_eq_false_iff_not] at hge
          omega
        have hwi : ws[i]? = some ws[i] := List.getElem?_eq_getElem hlt
        rw [hwi]
        exact ev_R (ea_cons (ev_op (ev_var rfl) (ev_var rfl) (rv_ixL hw2 (atI_map hwi))) (ea_cons (ev_op (ev_var rfl) (ev_var rfl) (rv_ixL hk2 (atI_map hki))) ea_nil)) (sv_lfits (W.sh _ (List.mem_of_getElem? hwi)) (W.ok _ (List.mem_of_getElem? hwi)))
      · have hbj : lbad ws ks 0 = some i := by
          rw [hb]
          cases ew : ws[i]? with
          | none => rfl
          | some w =>
            rw [ew, Option.any_some] at hbb
            have hlt := (List.getElem?_eq_some_iff.mp ew).1
            have : ¬ (((i : Nat) : Int) ≥ ((ws.map V.str).length : Nat)) := by rw [List.length_map]; omega
            rw [decide_eq_false this] at hbb
            have hf : lfits w kd = false := by simpa using hbb
            show (if lfits w kd = true then _ else some i) = some i
            rw [hf]; rfl
        rw [hbj] at k
        exact s_ret (v := .int (i : Nat)) (ev_var rfl) fun H4 e4 => k H4 ((e.trans e3).trans e4)
      · refine ⟨_, rfl, e.trans e3, ?_⟩
        rw [hb]
        cases ew : ws[i]? with
        | none =>
          rw [ew] at hbb
          have := List.getElem?_eq_none_iff.mp ew
          have : (((i : Nat) : Int) ≥ ((ws.map V.str).length : Nat)) := by rw [List.length_map]; omega
          rw [decide_eq_true this] at hbb
          cases hbb
        | some w =>
          rw [ew, Option.any_some] at hbb
          have hf : lfits w kd = true := by
            cases hq : lfits w kd with
            | true => rfl
            | false => rw [hq] at hbb; simp at hbb
          show (if lfits w kd = true then _ else some i) = _
          rw [if_pos hf]
    · obtain ⟨x, rfl, e, hb⟩ := p
      rw [Int.toNat_natCast, List.length_map, List.drop_length] at hb
      have hw2 := ex_l e hw
      have hk2 := ex_l e hk
      refine q_when (b := decide (((ws.map V.str).length : Int) > ((ks.map V.str).length : Nat))) (by walk_at "ev") (fun hbb H3 e3 => ?_) (fun hbb H3 e3 => ?_)
      · rw [List.length_map, List.length_map, decide_eq_true_iff] at hbb
        have hbj : lbad ws ks 0 = some ks.length := by
          rw [hb, List.drop_eq_getElem_cons (show ks.length < ws.length by omega)]
          rfl
        rw [hbj] at k
        exact s_ret (v := .int (ks.length : Nat)) (ev_is (ev_cb (ea_cons (ev_var rfl) ea_nil) (rc_len_l (ex_l e3 hk2))) (by rw [List.length_map])) fun H4 e4 => k H4 ((e.trans e3).trans e4)
      · rw [List.length_map, List.length_map, decide_eq_false_iff_not] at hbb
        have hbn : lbad ws ks 0 = none := by
          rw [hb, List.drop_eq_nil_of_le (show ws.length ≤ ks.length by omega)]
          rfl
        rw [hbn] at k
        exact s_ret (v := .non) ev_c fun H4 e4 => k H4 ((e.trans e3).trans e4)
def numsErr (ws : List Str) (least : Int) (asc : Bool) : Option Nat := match numsAll ws least asc with
  | .error j => some j
  | .ok _ => none
theorem numsErr_err {ws : List Str} {least : Int} {asc : Bool} {j : Nat} (h : numsAll ws least asc = .error j) : numsErr ws least asc = some j := by unfold numsErr; rw [h]
theorem numsErr_ok {ws : List Str} {least : Int} {asc : Bool} {f : List Int} (h : numsAll ws least asc = .ok f) : numsErr ws least asc = none := by unfold numsErr; rw [h]
def sp_lnums (K : PySem.W.Frag) : Sp := fun vs H Q _ => ∃ (p : Addr) (ws : List Str) (least : Int) (asc : Bool), vs = [.ref p, .int least, .bl asc] ∧ SqL K H p (ws.map V.str) ∧ Wds ws ∧ 1 ≤ ws.length ∧ RetV (optV (numsErr ws least asc)) H Q
theorem ok__law_numbers {P : Program} {w : World} {K : PySem.W.Frag} {mg : Str → Option Value} {base : Heap} (T : Txt P K mg) : FnR P w K mg base (CX0) 2 (f__law_numbers K) (sp_lnums K) := by
  obtain ⟨fd, F⟩ := T.F__law_numbers
  have F__law_number := ok__law_number (w := w) (base := base) T
  refine Rr.fnR_ok (F.ok sc__law_numbers (fun vs H Q E h => ?_) (fun cdv A outer s H vs Q E hr h => ?_)) (F.bindsN fun _ _ _ _ _ _ us hl => match us, hl with | [_, _, _], _ => rfl)
  · obtain ⟨p, ws, least, asc, rfl, _⟩ := h
    rfl
  · obtain ⟨p, ws, least, asc, rfl, h⟩ := h
    have hr__law_number : Room 1 _ := hr.mono (by decide)
    refine ⟨_, PSs.nox (pss_cons (ps_for PassesOwn.never rfl (pi_range2 rfl T.b_range (pa_cons pe_int (pa_cons (pe_callB call_len_seq rfl T.b_len (by decide +kernel) (pa_cons (pv 0) pa_nil)) pa_nil))) (pg_name (i := 3) sc__law_numbers.nd rfl (Or.inl rfl)) (pss_cons (ps_if (pt_not (pt_val (Rr.pe_cR F__law_number hr__law_number T.k__law_number T.g__law_number Rr.pass0 (pa_cons (pe_ix ix_list (pv 0) (pv 3) (fun _ _ => rfl)) pa_nil)))) (pss_one (ps_ret (pv 3))) pss_nil)
      (pss_one (ps_if (PW.pt (pw_and (pt_val (pv 2)) (pw_and (pt_cmpR op_gt (pv 3) pe_int (nomark _)) (pw_and1 (pt_cmpR op_le (pe_callTy call_int_str rfl T.b_int (by decide +kernel) (pa_cons (pe_ix ix_list (pv 0) (pv 3) (fun _ _ => rfl)) pa_nil)) (pe_callTy call_int_str rfl T.b_int (by decide +kernel) (pa_cons (pe_ix ix_list (pv 0) (pe_op op_sub (pv 3) pe_int) (fun _ _ => rfl)) pa_nil)) (nomark _)))))) (pss_one (ps_ret (pv 3))) pss_nil))))
      (pss_cons (ps_if (pt_cmpR op_lt (pe_op op_sub (pe_callB call_len_seq rfl T.b_len (by decide +kernel) (pa_cons (pv 0) pa_nil)) pe_int) (pv 1) (nomark _)) (pss_one (ps_ret (pe_callB call_len_seq rfl T.b_len (by decide +kernel) (pa_cons (pv 0) pa_nil)))) pss_nil)
      (pss_one (ps_ret pe_non)))), ?_⟩
    obtain ⟨hp, W, hl1, k⟩ := h
    have hl30 := W.ln
    show tSeq _ _ _ [some (V.ref p), some (.int least), some (.bl asc), none] H
    refine q_forR2 (lo := 1) (n := ((ws.map V.str).length : Nat)) (ea_cons ev_c (ea_cons (ev_cb (ea_cons (ev_var rfl) ea_nil) (rc_len_l hp)) ea_nil)) (by rw [List.length_map]; omega) (fun i σ H' => ∃ f x, σ = [some (V.ref p), some (.int least), some (.bl asc), x] ∧ Ex H H' ∧ f.length = i ∧ f.getLast? = (if i = 0 then none else (ws[i]?.map numOf)) ∧ (i = 0 ∨ ∃ w, ws[i]? = some w ∧ isNum w = true) ∧ numsGo asc (ws.drop 1) 1 [] = numsGo asc (ws.drop (i + 1)) (i + 1) f) (fun H2 e2 => ⟨[], _, rfl, e2, rfl, rfl, .inl rfl, rfl⟩) (fun i σ H' hi q => ?_) (fun σ H' q => ?_)
    · obtain ⟨f, x, rfl, e, hfl, hlast, hprev, hg⟩ := q
      rw [List.length_map] at hi
      have hlt : i + 1 < ws.length := by omega
      have hw : ws[i + 1]? = some ws[i + 1] := List.getElem?_eq_getElem hlt
      generalize ws[i + 1] = w at hw
      rw [numsGo_step hw] at hg
      have e1i : (1 + (i : Int)) = ((i + 1 : Nat) : Int) := by omega
      have hat : atI (ws.map V.str) (1 + (i : Int)) = some (V.str w) := by rw [e1i]; exact atI_map hw
      have hp2 := ex_l e hp
      have hwm := List.mem_of_getElem? hw
      dsimp only [List.set]
      have hret : ∀ H2, Ex H H2 → numsAll ws least asc = .error (i + 1) → tRet (tVar 3) { nx := fun _ _ => False, rt := Q, bk := fun _ _ => False, ct := fun _ _ => False } [some (V.ref p), some (.int least), some (.bl asc), some (.int (1 + (i : Int)))] H2 := fun H2 eH hb => by
        rw [numsErr_err hb] at k
        refine s_ret (v := .int (1 + (i : Int))) (ev_var rfl) fun H3 e3 => ?_
        rw [e1i]
        exact k H3 (eH.trans e3)
      refine q_when (b := !isNum w) (et_not (et_B (ev_R (ea_cons (ev_op (ev_var rfl) (ev_var rfl) (rv_ixL hp2 hat)) ea_nil) (sv_lnum (W.sh _ hwm) (W.ok _ hwm))))) (fun hb H2 e2 => ?_) (fun hb H2 e2 => ?_)
      · have hb : isNum w = false := by simpa using hb
        rw [hb] at hg
        exact hret H2 (e.trans e2) (by unfold numsAll; rw [hg]; rfl)
      · have hb : isNum w = true := by simpa using hb
        rw [if_pos hb] at hg
        have hp3 := ex_l e2 hp2
        refine s_when (b := asc && lastGe f (numOf w)) (et_is (et_and (et_B (ev_var rfl)) fun _ => et_and (a := decide ((1 + (i : Int)) > 1)) (b := lastGe f (numOf w)) (et_B (ev_op (ev_var rfl) ev_c rv_I0)) fun hi1 => ?_) ?_) (fun hb2 H4 e4 => ?_) (fun hb2 H4 e4 => ?_)
        · rw [decide_eq_true_iff] at hi1
          rcases hprev with h0 | ⟨w0, hw0, hn0⟩
          · omega
          · have hlg : lastGe f (numOf w) = decide (numOf w ≤ numOf w0) := by
              unfold lastGe
              rw [hlast, if_neg (by omega), hw0]
              rfl
            rw [hlg]
            have hat0 : atI (ws.map V.str) ((1 + (i : Int)) - 1) = some (V.str w0) := by
              rw [show (1 + (i : Int)) - 1 = ((i : Nat) : Int) by omega]; exact atI_map hw0
            exact et_B (ev_op (ev_cb (ea_cons (ev_op (ev_var rfl) (ev_var rfl) (rv_ixL hp3 hat)) ea_nil) (rc_num hb)) (ev_cb (ea_cons (ev_op (ev_var rfl) (ev_op (ev_var rfl) ev_c rv_I0) (rv_ixL hp3 hat0)) ea_nil) (rc_num hn0)) rv_I0)
        · by_cases hi1 : (1 + (i : Int)) > 1
          · rw [decide_eq_true hi1, Bool.true_and]
          · have : f = [] := List.length_eq_zero_iff.mp (by omega)
            rw [decide_eq_false hi1, this]; rfl
        · rw [if_pos hb2] at hg
          exact hret H4 ((e.trans e2).trans e4) (by unfold numsAll; rw [hg])
        · rw [hb2] at hg
          exact ⟨f ++ [numOf w], _, rfl, (e.trans e2).trans e4, by rw [List.length_append, hfl]; rfl, by rw [if_neg (by omega), hw]; simp, .inr ⟨w, hw, hb⟩, by rw [hg]; rfl⟩
    · obtain ⟨f, x, rfl, e, hfl, _, _, hg⟩ := q
      have hml : (ws.map V.str).length = ws.length := List.length_map _
      have hn : numsGo asc (ws.drop 1) 1 [] = .ok f := by
        rw [hg, List.drop_eq_nil_of_le (by omega)]
        rfl
      have hfl2 : (f.length : Int) = (ws.length : Int) - 1 := by omega
      refine q_when (b := decide (((ws.map V.str).length : Int) - 1 < least)) (et_B (ev_op (ev_op (ev_cb (ea_cons (ev_var rfl) ea_nil) (rc_len_l (ex_l e hp))) ev_c rv_I0) (ev_var rfl) rv_I0)) (fun hb H2 e2 => ?_) (fun hb H2 e2 => ?_)
      · rw [decide_eq_true_iff, hml] at hb
        rw [numsErr_err (j := ws.length) (by unfold numsAll; rw [hn]; exact if_pos (by omega))] at k
        exact s_ret (v := .int (ws.length : Nat)) (ev_is (ev_cb (ea_cons (ev_var rfl) ea_nil) (rc_len_l (ex_l (e.trans e2) hp))) (by rw [hml])) fun H4 e4 => k H4 ((e.trans e2).trans e4)
      · rw [decide_eq_false_iff_not, hml] at hb
        rw [numsErr_ok (f := f) (by unfold numsAll; rw [hn]; exact if_neg (by omega))] at k
        exact s_ret (v := .non) ev_c fun H4 e4 => k H4 ((e.trans e2).trans e4)
def optI : Option Int → V
  | none => .non
  | some j => .int j
def lnumbered (ws ks : List Str) (bf : Option Int) : Option Nat := match bf, ws[1]? with
  | some b, some w => if isNum w && decide (numOf w ≤ b) then some 1 else lbad ws ks 0
  | _, _ => lbad ws ks 0
def sp_lnumbered (K : PySem.W.Frag) : Sp := fun vs H Q _ => ∃ (pw pk : Addr) (ws ks : List Str) (bf : Option Int), vs = [.ref pw, .ref pk, optI bf] ∧ SqL K H pw (ws.map V.str) ∧ SqL K H pk (ks.map V.str) ∧ Wds ws ∧ ks.length ≤ 30 ∧ RetV (optV (lnumbered ws ks bf)) H Q
theorem ok__law_numbered {P : Program} {w : World} {K : PySem.W.Frag} {mg : Str → Option Value} {base : Heap} (T : Txt P K mg) : FnR P w K mg base (CX0) 4 (f__law_numbered K) (sp_lnumbered K) := by
  obtain ⟨fd, F⟩ := T.F__law_numbered
  have F__law_number := ok__law_number (w := w) (base := base) T
  have F__law_fixed := ok__law_fixed (w := w) (base := base) T
  refine Rr.fnR_ok (F.ok sc__law_numbered (fun vs H Q E h => ?_) (fun cdv A outer s H vs Q E hr h => ?_)) (F.bindsN fun _ _ _ _ _ _ us hl => match us, hl with | [_, _, _], _ => rfl)
  · obtain ⟨pw, pk, ws, ks, bf, rfl, _⟩ := h
    rfl
  · obtain ⟨pw, pk, ws, ks, bf, rfl, h⟩ := h
    have hr__law_number : Room 1 _ := hr.mono (by decide)
    have hr__law_fixed : Room 3 _ := hr.mono (by decide)
    refine ⟨_, PSs.nox (pss_cons (ps_if (PW.pt (pw_and (pt_cmpR op_notN (pv 2) pe_non (nomark _)) (pw_and (pt_cmpR op_gt (pe_callB call_len_seq rfl T.b_len (by decide +kernel) (pa_cons (pv 0) pa_nil)) pe_int (nomark _)) (pw_and1 (pt_val (Rr.pe_cR F__law_number hr__law_number T.k__law_number T.g__law_number Rr.pass0 (pa_cons (pe_ix ix_list (pv 0) pe_int (fun _ _ => rfl)) pa_nil))))))) (pss_one (ps_if (pt_cmpR op_le (pe_callTy call_int_str rfl T.b_int (by decide +kernel) (pa_cons (pe_ix ix_list (pv 0) pe_int (fun _ _ => rfl)) pa_nil)) (pv 2) (nomark _)) (pss_one (ps_ret pe_int)) pss_nil)) pss_nil)
      (pss_one (ps_ret (Rr.pe_cR F__law_fixed hr__law_fixed T.k__law_fixed T.g__law_fixed Rr.pass0 (pa_cons (pv 0) (pa_cons (pv 1) pa_nil)))))), ?_⟩
    obtain ⟨hw, hk, W, hkl, k⟩ := h
    show tSeq _ _ _ [some (V.ref pw), some (.ref pk), some (optI bf)] H
    have last : ∀ H1, Ex H H1 → lnumbered ws ks bf = lbad ws ks 0 → tRet (Rr.tR (sp_lfixed K) (fun _ _ _ _ => False) (tCons (tVar 0) (tCons (tVar 1) tNil))) { nx := fun _ _ => False, rt := Q, bk := fun _ _ => False, ct := fun _ _ => False } [some (V.ref pw), some (.ref pk), some (optI bf)] H1 := fun H1 e1 hq => by
      rw [hq] at k
      exact s_retG (call_R (vs := [.ref pw, .ref pk]) (ea_cons (ev_var rfl) (ea_cons (ev_var rfl) ea_nil)) fun H2 e2 => ⟨pw, pk, ws, ks, rfl, ex_l (e1.trans e2) hw, ex_l (e1.trans e2) hk, W, hkl, fun H3 e3 => k H3 ((e1.trans e2).trans e3)⟩)
    refine q_when (b := !decide (optI bf = V.non) && (decide (((ws.map V.str).length : Int) > 1) && (ws[1]?.any isNum))) (et_and (et_notN (ev_var rfl) rfl) fun h1 => et_and (et_B (ev_op (ev_cb (ea_cons (ev_var rfl) ea_nil) (rc_len_l hw)) ev_c rv_I0)) fun h2 => et_B ?_) (fun hb H1 e1 => ?_) (fun hb H1 e1 => ?_)
    · rw [List.length_map, decide_eq_true_iff] at h2
      have hwi : ws[1]? = some ws[1] := List.getElem?_eq_getElem (by omega)
      rw [hwi]
      exact ev_R (ea_cons (ev_op (ev_var rfl) ev_c (rv_ixL hw (atI_map (i := 1) hwi))) ea_nil) (sv_lnum (W.sh _ (List.mem_of_getElem? hwi)) (W.ok _ (List.mem_of_getElem? hwi)))
    · simp only [Bool.and_eq_true] at hb
      obtain ⟨hb1, hb2, hb3⟩ := hb
      cases bf with
      | none => simp [optI] at hb1
      | some b =>
        cases hwi : ws[1]? with
        | none => rw [hwi] at hb3; cases hb3
        | some w =>
          rw [hwi] at hb3
          have hn : isNum w = true := hb3
          refine s_when (b := decide (numOf w ≤ b)) (et_B (ev_op (ev_cb (ea_cons (ev_op (ev_var rfl) ev_c (rv_ixL (ex_l e1 hw) (atI_map (i := 1) hwi))) ea_nil) (rc_num hn)) (ev_var (v := .int b) rfl) rv_I0)) (fun hc H2 e2 => ?_) (fun hc H2 e2 => ?_)
          · have hq : lnumbered ws ks (some b) = some 1 := by unfold lnumbered; rw [hwi]; simp only [hn, hc]; rfl
            rw [hq] at k
            exact s_ret (v := .int 1) ev_c fun H3 e3 => k H3 ((e1.trans e2).trans e3)
          · exact last H2 (e1.trans e2) (by unfold lnumbered; rw [hwi]; simp only [hn, hc]; rfl)
    · refine last H1 e1 ?_
      unfold lnumbered
      cases bf with
      | none => rfl
      | some b =>
        cases hwi : ws[1]? with
        | none => rfl
        | some w =>
          have hlt := (List.getElem?_eq_some_iff.mp hwi).1
          rw [hwi, List.length_map, decide_eq_true (show ((ws.length : Nat) : Int) > 1 by omega)] at hb
          have hn : isNum w = false := by simpa [optI] using hb
          simp only [hn]; rfl
end Cs
namespace Rw
open PySem PySem.Spec PyProof.Rows L2
section
variable {X : Cx} {K : PySem.W.Frag}
theorem pe_bmK {name : Str} {T id : String} {r : V → List V → Hp → VK → Prop} {o e : Expr} {es : List Expr} {to : TE} {t : TA} {apos cpos : Pos} (hK : X.K = K) (pa : PlainAttrs T) (slot : Slot T name id) (hty : typeOf (.builtin id) = pure (.type "method_descriptor")) (hm : MtR X id r) (ho : PE X o to) (ha : PA X (e :: es) t)
    (hbase : attributeBase o name X.env (eval o X.env) = eval o X.env := by rfl)
    (hfew : ((backTo cpos (starEach (e :: es) X.env)).all (fun x => !x.1) && (backToKw cpos (keywordEach [] X.env)).all (fun x => x.1.isSome)
      && decide ((e :: es).length + ([] : List Keyword).length + (if ([] : List Keyword).isEmpty then 0 else 1) < 30)) = true := by rfl)
    (hline : (apos.endLine == cpos.line) = true := by rfl) (hs : starEach (e :: es) X.env = (false, eval e X.env) :: starEach es X.env := by rfl) (hplain : (backTo cpos (starEach es X.env)).any (·.1) = false := by rfl) :
    PE X (.Call (.Attribute o name apos) (e :: es) [] cpos) (tBM K T r to t) := by
  subst hK
  exact pe_bm pa slot hty hm ho ha hbase hfew hline hs hplain
theorem mt_indexK (hK : X.K = K) : MtR X "list.index" (rIndex K) := by
  subst hK
  exact mt_index
end
end Rw
namespace Cs
open PySem PySem.Spec PyProof.Rows L2 Evl Hb TL
theorem inV_str {k : Str} {xs : List Str} : inV (.str k) (xs.map V.str) = decide (k ∈ xs) := by
  induction xs with
  | nil => rfl
  | cons x xs ih =>
    have e : inV (.str k) (V.str x :: xs.map V.str) = (eqV (.str x) (.str k) || inV (.str k) (xs.map V.str)) := rfl
    rw [List.map_cons, e, ih]
    by_cases h : k = x
    · subst h; simp [eqV]
    · have h2 : ¬ x = k := fun z => h z.symm
      simp [eqV, h, h2]
theorem flat_strs {xs : List Str} : (xs.map V.str).all flatV = true := by
  rw [List.all_map]
  exact List.all_eq_true.mpr fun _ _ => rfl
section
variable {K : PySem.W.Frag} {σ : L2.St} {H : Hp} {te tb ta : TE}
theorem et_inS {k : Str} {xs : List Str} (h : Ev te σ H (.str k)) (hb : EvL tb σ H (xs.map V.str)) : EvT (tB (tOp (rIn K false) te tb)) σ H (decide (k ∈ xs)) :=
  et_B (ev_is (ev_isL (neg := false) h hb rfl flat_strs) (by rw [if_neg (by simp), inV_str]))
theorem et_ninS {k : Str} {xs : List Str} (h : Ev te σ H (.str k)) (hb : EvL tb σ H (xs.map V.str)) : EvT (tB (tOp (rIn K true) te tb)) σ H (!decide (k ∈ xs)) :=
  et_B (ev_is (ev_isL (neg := true) h hb rfl flat_strs) (by rw [if_pos rfl, inV_str]))
theorem call_2L {sp : Sp} {x : V} {ys : List V} {E : L2.St → XK} {Q : VK} (ha : Ev ta σ H x) (hb : EvL tb σ H ys) (k : ∀ H1 q, Ex H H1 → H1 q = some (.lst ys) → sp [x, .ref q] H1 Q (E σ)) : Rr.tR sp E (tCons ta (tCons tb tNil)) σ H Q :=
  ha H (Ex.refl H) _ fun H1 e1 => hb H1 e1 _ fun q H2 _ e2 h2 => k H2 q (e1.trans e2) h2
theorem call_3L {tc : TE} {sp : Sp} {x z : V} {ys : List V} {E : L2.St → XK} {Q : VK} (ha : Ev ta σ H x) (hb : EvL tb σ H ys) (hc : Ev tc σ H z) (k : ∀ H1 q, Ex H H1 → H1 q = some (.lst ys) → sp [x, .ref q, z] H1 Q (E σ)) : Rr.tR sp E (tCons ta (tCons tb (tCons tc tNil))) σ H Q :=
  ha H (Ex.refl H) _ fun H1 e1 => hb H1 e1 _ fun q H2 _ e2 h2 => hc H2 (e1.trans e2) _ fun H3 e3 => k H3 q ((e1.trans e2).trans e3) (e3 _ _ h2)
theorem ev_index {tk : TE} {p : Addr} {xs : List Str} {k : Str} (ho : Ev ta σ H (.ref p)) (hp : SqL K H p (xs.map V.str)) (hk : Ev tk σ H (.str k)) (hm : k ∈ xs) (hl : ∀ H1, Ex H H1 → H1 p = some (.lst (xs.map V.str))) : Ev (tBM K "list" (rIndex K) ta (tCons tk tNil)) σ H (.int (xs.idxOf k : Nat)) := fun H1 e Q q =>
  ho H1 e _ fun H2 e2 => ⟨.inl ⟨rfl, _, sq_of (hl H2 (e.trans e2))⟩, hk H2 (e.trans e2) _ fun H3 e3 => by
    have hlt : xs.idxOf k < xs.length := List.idxOf_lt_length_of_mem hm
    refine ⟨p, xs.map V.str, .str k, xs.idxOf k, .str k, rfl, rfl, sq_of (hl H3 ((e.trans e2).trans e3)), rfl, flat_strs, ?_, by simp [eqV], fun m z hm1 hz => ?_, q H3 (e2.trans e3)⟩
    · rw [List.getElem?_map, List.getElem?_eq_getElem hlt, List.getElem_idxOf]; rfl
    · rw [List.getElem?_map] at hz
      obtain ⟨y, hy, rfl⟩ := Option.map_eq_some_iff.mp hz
      have hne : y ≠ k := by
        obtain ⟨h1, rfl⟩ := List.getElem?_eq_some_iff.mp hy
        intro hyk
        have := List.not_of_lt_findIdx (p := (· == k)) (xs := xs) (i := m) hm1
        simp [hyk] at this
      simp [eqV, hne]⟩
end
def wrongK (key : Str) (ws : List Str) (bf : Option Int) : Option Nat :=
  if key = "stop" then lbad ws ["stop", "number"] 0
  else if key = "form" then lnumbered ws ["form", "number", "word", "number", "word"] bf
  else if key ∈ ([("layout" : Str), "stretch"] : List Str) then lbad ws [key, "number", "number"] 0
  else if key ∈ ([("old" : Str), "new"] : List Str) then numsErr ws 1 false
  else if key ∈ ([("entries" : Str), "standing"] : List Str) then numsErr ws 1 true
  else if key = "crossings" then numsErr ws 0 true
  else if ws[2]? = some ("to" : Str) then lnumbered ws ["answer", "number", "to", "number"] bf
  else lnumbered ws ["answer", "number", "wait"] bf
def wrongR (ws : List Str) (bf : Option Int) : Option Nat := wrongK (ws[0]?.getD "") ws bf
def sp_lwrong (K : PySem.W.Frag) : Sp := fun vs H Q _ => ∃ (p : Addr) (key : Str) (ws : List Str) (bf : Option Int), vs = [.ref p, optI bf] ∧ H p = some (.lst ((key :: ws).map V.str)) ∧ Wds (key :: ws) ∧ RetV (optV (wrongR (key :: ws) bf)) H Q
theorem ok__law_wrong {P : Program} {w : World} {K : PySem.W.Frag} {mg : Str → Option Value} {base : Heap} (T : Txt P K mg) : FnR P w K mg base (CX0) 5 (f__law_wrong K) (sp_lwrong K) := by
  obtain ⟨fd, F⟩ := T.F__law_wrong
  have F__law_fixed := ok__law_fixed (w := w) (base := base) T
  have F__law_numbered := ok__law_numbered (w := w) (base := base) T
  have F__law_numbers := ok__law_numbers (w := w) (base := base) T
  refine Rr.fnR_ok (F.ok sc__law_wrong (fun vs H Q E h => ?_) (fun cdv A outer s H vs Q E hr h => ?_)) (F.bindsN fun _ _ _ _ _ _ us hl => match us, hl with | [_, _], _ => rfl)
  · obtain ⟨p, key, ws, bf, rfl, _⟩ := h
    rfl
  · obtain ⟨p, key, ws, bf, rfl, h⟩ := h
    have hr__law_fixed : Room 3 _ := hr.mono (by decide)
    have hr__law_numbered : Room 4 _ := hr.mono (by decide)
    have hr__law_numbers : Room 2 _ := hr.mono (by decide)
    refine ⟨_, PSs.nox (pss_cons (ps_set (i := 2) sc__law_wrong.nd rfl (Or.inl rfl) (pe_ix ix_list (pv 0) pe_int (fun _ _ => rfl)))
      (pss_cons (ps_if (pt_cmpR op_eq (pv 2) pe_str (nomark _)) (pss_one (ps_ret (Rr.pe_cR F__law_fixed hr__law_fixed T.k__law_fixed T.g__law_fixed Rr.pass0 (pa_cons (pv 0) (pa_cons (pe_lst (pa_cons pe_str (pa_cons pe_str pa_nil))) pa_nil))))) pss_nil)
      (pss_cons (ps_if (pt_cmpR op_eq (pv 2) pe_str (nomark _)) (pss_one (ps_ret (Rr.pe_cR F__law_numbered hr__law_numbered T.k__law_numbered T.g__law_numbered Rr.pass0 (pa_cons (pv 0) (pa_cons (pe_lst (pa_cons pe_str (pa_cons pe_str (pa_cons pe_str (pa_cons pe_str (pa_cons pe_str pa_nil)))))) (pa_cons (pv 1) pa_nil)))))) pss_nil)
      (pss_cons (ps_if (pt_cmpR op_in_seq (pv 2) (pe_lst (pa_cons pe_str (pa_cons pe_str pa_nil))) (by rfl)) (pss_one (ps_ret (Rr.pe_cR F__law_fixed hr__law_fixed T.k__law_fixed T.g__law_fixed Rr.pass0 (pa_cons (pv 0) (pa_cons (pe_lst (pa_cons (pv 2) (pa_cons pe_str (pa_cons pe_str pa_nil)))) pa_nil))))) pss_nil)
      (pss_cons (ps_if (pt_cmpR op_in_seq (pv 2) (pe_lst (pa_cons pe_str (pa_cons pe_str pa_nil))) (by rfl)) (pss_one (ps_ret (Rr.pe_cR F__law_numbers hr__law_numbers T.k__law_numbers T.g__law_numbers Rr.pass0 (pa_cons (pv 0) (pa_cons pe_int (pa_cons pe_bl pa_nil)))))) pss_nil)
      (pss_cons (ps_if (pt_cmpR op_in_seq (pv 2) (pe_lst (pa_cons pe_str (pa_cons pe_str pa_nil))) (by rfl)) (pss_one (ps_ret (Rr.pe_cR F__law_numbers hr__law_numbers T.k__law_numbers T.g__law_numbers Rr.pass0 (pa_cons (pv 0) (pa_cons pe_int (pa_cons pe_bl pa_nil)))))) pss_nil)
      (pss_cons (ps_if (pt_cmpR op_eq (pv 2) pe_str (nomark _)) (pss_one (ps_ret (Rr.pe_cR F__law_numbers hr__law_numbers T.k__law_numbers T.g__law_numbers Rr.pass0 (pa_cons (pv 0) (pa_cons pe_int (pa_cons pe_bl pa_nil)))))) pss_nil)
      (pss_cons (ps_if (PW.pt (pw_and (pt_cmpR op_gt (pe_callB call_len_seq rfl T.b_len (by decide +kernel) (pa_cons (pv 0) pa_nil)) pe_int (nomark _)) (pw_and1 (pt_cmpR op_eq (pe_ix ix_list (pv 0) pe_int (fun _ _ => rfl)) pe_str (nomark _))))) (pss_one (ps_ret (Rr.pe_cR F__law_numbered hr__law_numbered T.k__law_numbered T.g__law_numbered Rr.pass0 (pa_cons (pv 0) (pa_cons (pe_lst (pa_cons pe_str (pa_cons pe_str (pa_cons pe_str (pa_cons pe_str pa_nil))))) (pa_cons (pv 1) pa_nil)))))) pss_nil)
      (pss_one (ps_ret (Rr.pe_cR F__law_numbered hr__law_numbered T.k__law_numbered T.g__law_numbered Rr.pass0 (pa_cons (pv 0) (pa_cons (pe_lst (pa_cons pe_str (pa_cons pe_str (pa_cons pe_str pa_nil)))) (pa_cons (pv 1) pa_nil)))))))))))))), ?_⟩
    obtain ⟨hp, W, k⟩ := h
    show tSeq _ _ _ [some (V.ref p), some (optI bf), none] H
    refine q_asg (v := .str key) (ev_op (ev_var rfl) ev_c (rv_ixL (sq_of hp) (atI_map (xs := key :: ws) (i := 0) rfl))) fun H1 e1 => ?_
    have hp1 := e1 _ _ hp
    show tSeq _ _ _ [some (V.ref p), some (optI bf), some (.str key)] H1
    have hw : wrongR (key :: ws) bf = wrongK key (key :: ws) bf := rfl
    rw [hw] at k
    have k1 : RetV (optV (wrongK key (key :: ws) bf)) H1 Q := fun H2 e2 => k H2 (e1.trans e2)
    clear k hw hp e1
    generalize hg : key :: ws = wss at hp1 W k1
    have fixed : ∀ {ks : List Str} {tl : TE} {H2 : Hp}, Ex H1 H2 → ks.length ≤ 30 → wrongK key wss bf = lbad wss ks 0 → EvL tl [some (V.ref p), some (optI bf), some (.str key)] H2 (ks.map V.str) →
        Rr.tR (sp_lfixed K) (fun _ _ _ _ => False) (tCons (tVar 0) (tCons tl tNil)) [some (V.ref p), some (optI bf), some (.str key)] H2 Q := fun {ks tl H2} e2 hl hq h => call_2L (ev_var rfl) h fun H3 q e3 h3 => by
      rw [hq] at k1
      exact ⟨p, q, wss, ks, rfl, sq_of ((e2.trans e3) _ _ hp1), sq_of h3, W, hl, fun H4 e4 => k1 H4 ((e2.trans e3).trans e4)⟩
    have numbered : ∀ {ks : List Str} {tl : TE} {H2 : Hp}, Ex H1 H2 → ks.length ≤ 30 → wrongK key wss bf = lnumbered wss ks bf → EvL tl [some (V.ref p), some (optI bf), some (.str key)] H2 (ks.map V.str) →
        Rr.tR (sp_lnumbered K) (fun _ _ _ _ => False) (tCons (tVar 0) (tCons tl (tCons (tVar 1) tNil))) [some (V.ref p), some (optI bf), some (.str key)] H2 Q := fun {ks tl H2} e2 hl hq h => call_3L (ev_var rfl) h (ev_var rfl) fun H3 q e3 h3 => by
      rw [hq] at k1
      exact ⟨p, q, wss, ks, bf, rfl, sq_of ((e2.trans e3) _ _ hp1), sq_of h3, W, hl, fun H4 e4 => k1 H4 ((e2.trans e3).trans e4)⟩
    have nums : ∀ {least : Int} {asc : Bool} {H2 : Hp}, Ex H1 H2 → wrongK key wss bf = numsErr wss least asc →
        Rr.tR (sp_lnums K) (fun _ _ _ _ => False) (tCons (tVar 0) (tCons (tC (.int least)) (tCons (tC (.bl asc)) tNil))) [some (V.ref p), some (optI bf), some (.str key)] H2 Q := fun {least asc H2} e2 hq => call_R (vs := [.ref p, .int least, .bl asc]) (ea_cons (ev_var rfl) (ea_cons ev_c (ea_cons ev_c ea_nil))) fun H3 e3 => by
      rw [hq] at k1
      exact ⟨p, wss, least, asc, rfl, sq_of ((e2.trans e3) _ _ hp1), W, by rw [← hg]; simp, fun H4 e4 => k1 H4 ((e2.trans e3).trans e4)⟩
    refine q_when (b := decide (V.str key = V.str "stop")) (by walk_at "ev") (fun hb H2 e2 => ?_) (fun hb H2 e2 => ?_)
    · have e : key = "stop" := by simpa [dec_str] using hb
      exact s_retG (fixed (ks := ["stop", "number"]) e2 (by decide) (by unfold wrongK; rw [if_pos e]) (el_lst (vs := [_, _]) (ea_cons ev_c (ea_cons ev_c ea_nil)) (by simp)))
    have n1 : ¬ key = "stop" := by simpa [dec_str] using hb
    clear hb
    refine q_when (b := decide (V.str key = V.str "form")) (by walk_at "ev") (fun hb H3 e3 => ?_) (fun hb H3 e3 => ?_)
    · have e : key = "form" := by simpa [dec_str] using hb
      exact s_retG (numbered (ks := ["form", "number", "word", "number", "word"]) (e2.trans e3) (by decide) (by unfold wrongK; rw [if_neg n1, if_pos e]) (el_lst (vs := [_, _, _, _, _]) (ea_cons ev_c (ea_cons ev_c (ea_cons ev_c (ea_cons ev_c (ea_cons ev_c ea_nil))))) (by simp)))
    have n2 : ¬ key = "form" := by simpa [dec_str] using hb
    have e3 := e2.trans e3
    clear hb e2
    refine q_when (b := decide (key ∈ ([("layout" : Str), "stretch"] : List Str))) (et_inS (ev_var rfl) (el_lst (vs := [_, _]) (ea_cons ev_c (ea_cons ev_c ea_nil)) (by simp))) (fun hb H4 e4 => ?_) (fun hb H4 e4 => ?_)
    · have e := of_decide_eq_true hb
      exact s_retG (fixed (ks := [key, "number", "number"]) (e3.trans e4) (by simp) (by unfold wrongK; rw [if_neg n1, if_neg n2, if_pos e]) (el_lst (vs := [_, _, _]) (ea_cons (ev_var rfl) (ea_cons ev_c (ea_cons ev_c ea_nil))) (by simp)))
    have n3 := of_decide_eq_false hb
    have e4 := e3.trans e4
    clear hb e3
    refine q_when (b := decide (key ∈ ([("old" : Str), "new"] : List Str))) (et_inS (ev_var rfl) (el_lst (vs := [_, _]) (ea_cons ev_c (ea_cons ev_c ea_nil)) (by simp))) (fun hb H5 e5 => ?_) (fun hb H5 e5 => ?_)
    · have e := of_decide_eq_true hb
      exact s_retG (nums (least := 1) (asc := false) (e4.trans e5) (by unfold wrongK; rw [if_neg n1, if_neg n2, if_neg n3, if_pos e]))
    have n4 := of_decide_eq_false hb
    have e5 := e4.trans e5
    clear hb e4
    refine q_when (b := decide (key ∈ ([("entries" : Str), "standing"] : List Str))) (et_inS (ev_var rfl) (el_lst (vs := [_, _]) (ea_cons ev_c (ea_cons ev_c ea_nil)) (by simp))) (fun hb H6 e6 => ?_) (fun hb H6 e6 => ?_)
    · have e := of_decide_eq_true hb
      exact s_retG (nums (least := 1) (asc := true) (e5.trans e6) (by unfold wrongK; rw [if_neg n1, if_neg n2, if_neg n3, if_neg n4, if_pos e]))
    have n5 := of_decide_eq_false hb
    have e6 := e5.trans e6
    clear hb e5
    refine q_when (b := decide (V.str key = V.str "crossings")) (by walk_at "ev") (fun hb H7 e7 => ?_) (fun hb H7 e7 => ?_)
    · have e : key = "crossings" := by simpa [dec_str] using hb
      exact s_retG (nums (least := 0) (asc := true) (e6.trans e7) (by unfold wrongK; rw [if_neg n1, if_neg n2, if_neg n3, if_neg n4, if_neg n5, if_pos e]))
    have n6 : ¬ key = "crossings" := by simpa [dec_str] using hb
    have e7 := e6.trans e7
    clear hb e6
    have hp7 := e7 _ _ hp1
    refine q_when (b := decide (wss[2]? = some ("to" : Str))) (et_is (et_and (a := decide (((wss.map V.str).length : Int) > 2)) (b := decide (wss[2]? = some ("to" : Str))) (et_B (ev_op (ev_cb (ea_cons (ev_var rfl) ea_nil) (rc_len_l (sq_of hp7))) ev_c rv_I0)) fun h2 => ?_) ?_) (fun hb H8 e8 => ?_) (fun hb H8 e8 => ?_)
    · rw [List.length_map, decide_eq_true_iff] at h2
      have hwi : wss[2]? = some wss[2] := List.getElem?_eq_getElem (by omega)
      refine et_B (ev_is (ev_op (ev_op (ev_var rfl) ev_c (rv_ixL (sq_of hp7) (atI_map (i := 2) hwi))) ev_c (rv_eq rfl)) ?_)
      rw [hwi, dec_str]
      congr 1
      exact decide_eq_decide.mpr ⟨fun z => by rw [z], fun z => Option.some.inj z⟩
    · by_cases h2 : ((wss.map V.str).length : Int) > 2
      · rw [decide_eq_true h2, Bool.true_and]
      · rw [List.length_map] at h2
        have : wss[2]? = none := List.getElem?_eq_none_iff.mpr (by omega)
        rw [this]; simp
    · have e := of_decide_eq_true hb
      exact s_retG (numbered (ks := ["answer", "number", "to", "number"]) (e7.trans e8) (by decide) (by unfold wrongK; rw [if_neg n1, if_neg n2, if_neg n3, if_neg n4, if_neg n5, if_neg n6, if_pos e]) (el_lst (vs := [_, _, _, _]) (ea_cons ev_c (ea_cons ev_c (ea_cons ev_c (ea_cons ev_c ea_nil)))) (by simp)))
    · have e := of_decide_eq_false hb
      exact s_retG (numbered (ks := ["answer", "number", "wait"]) (e7.trans e8) (by decide) (by unfold wrongK; rw [if_neg n1, if_neg n2, if_neg n3, if_neg n4, if_neg n5, if_neg n6, if_neg e]) (el_lst (vs := [_, _, _]) (ea_cons ev_c (ea_cons ev_c (ea_cons ev_c ea_nil))) (by simp)))
def ordL : List Str := ["stop", "form", "layout", "old", "new", "entries", "standing", "crossings", "answer", "stretch"]
def nextK (k : Str) : List Str := if k = "form" then ["form", "layout"] else if ordL.idxOf k < 5 then [ordL[ordL.idxOf k + 1]?.getD ""]
  else ordL.filter fun w => decide ((ordL.idxOf w : Int) > (ordL.idxOf k : Nat)) || (decide (w = k) && decide (k ∈ ([("answer" : Str), "stretch"] : List Str)))
def nextR : Option Str → List Str
  | none => ["stop"]
  | some k => nextK k
def optS : Option Str → V
  | none => .non
  | some k => .str k
def sp_lnext : Sp := fun vs H Q _ => ∃ key : Option Str, vs = [optS key] ∧ (∀ k, key = some k → k ∈ ordL) ∧ RetL ((nextR key).map V.str) H Q
theorem ok__law_next {P : Program} {w : World} {K : PySem.W.Frag} {mg : Str → Option Value} {base : Heap} (T : Txt P K mg) : FnR P w K mg base (CX0) 1 (f__law_next K) (sp_lnext) := by
  obtain ⟨fd, F⟩ := T.F__law_next
  refine Rr.fnR_ok (F.ok sc__law_next (fun vs H Q E h => ?_) (fun cdv A outer s H vs Q E hr h => ?_)) (F.bindsN fun _ _ _ _ _ _ us hl => match us, hl with | [_], _ => rfl)
  · obtain ⟨key, rfl, _⟩ := h
    rfl
  · obtain ⟨key, rfl, h⟩ := h
    refine ⟨_, PSs.nox (pss_cons (ps_set (i := 1) sc__law_next.nd rfl (Or.inr rfl) (pe_lst (pa_cons pe_str (pa_cons pe_str (pa_cons pe_str (pa_cons pe_str (pa_cons pe_str (pa_cons pe_str (pa_cons pe_str (pa_cons pe_str (pa_cons pe_str (pa_cons pe_str pa_nil))))))))))))
      (pss_cons (ps_if (pt_cmpR op_isN (pv 0) pe_non (nomark _)) (pss_one (ps_ret (pe_lst (pa_cons pe_str pa_nil)))) pss_nil)
      (pss_cons (ps_if (pt_cmpR op_eq (pv 0) pe_str (nomark _)) (pss_one (ps_ret (pe_lst (pa_cons pe_str (pa_cons pe_str pa_nil))))) pss_nil)
      (pss_cons (ps_set (i := 2) sc__law_next.nd rfl (Or.inr rfl) (pe_bm PySem.F.plainAttrs_list PySem.F.slot_list_index PySem.F.type_list_index mt_index (pv 1) (pa_cons (pv 0) pa_nil)))
      (pss_cons (ps_if (pt_cmpR op_lt (pv 2) pe_int (nomark _)) (pss_one (ps_ret (pe_lst (pa_cons (pe_ix ix_list (pv 1) (pe_op op_add (pv 2) pe_int) (fun _ _ => rfl)) pa_nil)))) pss_nil)
      (pss_one (ps_ret (pe_lc (own := [("_law_word_here", 3)]) (g := gName 3) (tt := _) rfl sc__law_next.nd (pi_list (pv 1)) (blkOk_by (N := N__law_next) (sc := defScope s__law_next) (by decide +kernel)) (fun _ _ _ _ _ => (pg_name (i := 3) sc__law_next.nd rfl (Or.inl rfl))) (fun _ _ _ _ _ => (pts_one (PW.pt (pw_or (pt_cmpR op_gt (Rw.pe_bmK (K := K) rfl PySem.F.plainAttrs_list PySem.F.slot_list_index PySem.F.type_list_index (Rw.mt_indexK (K := K) rfl) (pv 1) (pa_cons (pv 3) pa_nil)) (pv 2) (nomark _)) (pw_or1 (PW.pt (pw_and (pt_cmpR op_eq (pv 3) (pv 0) (nomark _)) (pw_and1 (pt_cmpR (Rw.op_in_seqK (K := K) rfl) (pv 0) (pe_lst (pa_cons pe_str (pa_cons pe_str pa_nil))) (by rfl)))))))))) (fun _ _ _ _ _ => (pv 3)))))))))), ?_⟩
    obtain ⟨hm, k⟩ := h
    show tSeq _ _ _ [some (optS key), none, none, none] H
    refine q_asgL (xs := ordL.map V.str) (el_lst (vs := ordL.map V.str) (by repeat' first | exact ea_nil | exact ev_c | refine ea_cons ?_ ?_) (by decide)) fun p H1 hp e1 h1 => ?_
    show tSeq _ _ _ [some (optS key), some (.ref p), none, none] H1
    refine q_when (et_isN (ev_var rfl) rfl) (fun hb H2 e2 => ?_) (fun hb H2 e2 => ?_)
    · have e : key = none := by
        cases key with
        | none => rfl
        | some k => cases of_decide_eq_true hb
      subst e
      exact s_retL (el_lst (vs := [V.str "stop"]) (ea_cons ev_c ea_nil) (by simp)) fun q H3 hq e3 h3 => k q H3 (fresh_back (e1.trans e2) hq) ((e1.trans e2).trans e3) h3
    cases key with
    | none => simp [optS] at hb
    | some key =>
    have hm := hm key rfl
    have h2 := e2 _ _ h1
    have e2 := e1.trans e2
    clear hb h1 hp e1
    show tSeq _ _ _ [some (V.str key), some (.ref p), none, none] H2
    refine q_when (b := decide (V.str key = V.str "form")) (by walk_at "ev") (fun hb H3 e3 => ?_) (fun hb H3 e3 => ?_)
    · have e : key = "form" := by simpa [dec_str] using hb
      have hk : nextR (some key) = ([("form" : Str), "layout"] : List Str) := if_pos e
      rw [hk] at k
      exact s_retL (el_lst (vs := [_, _]) (ea_cons ev_c (ea_cons ev_c ea_nil)) (by simp)) fun q H4 hq e4 h4 => k q H4 (fresh_back (e2.trans e3) hq) ((e2.trans e3).trans e4) h4
    have n1 : ¬ key = "form" := by simpa [dec_str] using hb
    have h3 := e3 _ _ h2
    have e3 := e2.trans e3
    clear hb h2 e2
    refine q_asg (v := .int (ordL.idxOf key : Nat)) (ev_index (ev_var rfl) (sq_of h3) (ev_var rfl) hm (fun H4 e4 => e4 _ _ h3)) fun H4 e4 => ?_
    have h4 := e4 _ _ h3
    have e4 := e3.trans e4
    clear h3 e3
    show tSeq _ _ _ [some (V.str key), some (.ref p), some (.int (ordL.idxOf key : Nat)), none] H4
    have hi10 : ordL.idxOf key < 10 := List.idxOf_lt_length_of_mem hm
    refine q_when (b := decide (((ordL.idxOf key : Nat) : Int) < 5)) (et_B (ev_op (ev_var rfl) ev_c rv_I0)) (fun hb H5 e5 => ?_) (fun hb H5 e5 => ?_)
    · have hlt : ordL.idxOf key < 5 := by have := of_decide_eq_true hb; omega
      have hk : nextR (some key) = [ordL[ordL.idxOf key + 1]?.getD ""] := by
        show nextK key = _
        unfold nextK
        rw [if_neg n1, if_pos hlt]
      rw [hk] at k
      have hi : ordL[ordL.idxOf key + 1]? = some (ordL[ordL.idxOf key + 1]?.getD "") := by
        rw [List.getElem?_eq_getElem (show ordL.idxOf key + 1 < ordL.length from by show _ < 10; omega)]; rfl
      refine s_retL (xs := [V.str (ordL[ordL.idxOf key + 1]?.getD "")]) (el_lst (ea_cons (ev_op (ev_var rfl) (ev_succ (ev_var rfl)) (rv_ixL (sq_of (e5 _ _ h4)) (atI_map (xs := ordL) hi))) ea_nil) (by simp)) fun q H6 hq e6 h6 => k q H6 (fresh_back (e4.trans e5) hq) ((e4.trans e5).trans e6) h6
    have hge : ¬ ordL.idxOf key < 5 := by have := of_decide_eq_false hb; omega
    have hk : nextR (some key) = ordL.filter fun w => decide ((ordL.idxOf w : Int) > (ordL.idxOf key : Nat)) || (decide (w = key) && decide (key ∈ ([("answer" : Str), "stretch"] : List Str))) := by
      show nextK key = _
      unfold nextK
      rw [if_neg n1, if_neg hge]
    rw [hk] at k
    have h5 := e5 _ _ h4
    refine s_retL (el_lc (ex := V.str) (fun w => decide ((ordL.idxOf w : Int) > (ordL.idxOf key : Nat)) || (decide (w = key) && decide (key ∈ ([("answer" : Str), "stretch"] : List Str)))) V.str (ei_l (ev_var rfl) (sq_of h5)) (by rw [sizeLine_eq]; decide) (fun x => rfl) (fun w hw => ?_) (fun w hw _ => ev_var rfl)) fun q H6 hq e6 h6 => k q H6 (fresh_back (e4.trans e5) hq) ((e4.trans e5).trans e6) h6
    refine et_or (et_B (ev_op (ev_index (ev_var rfl) (sq_of h5) (ev_var rfl) hw (fun H6 e6 => e6 _ _ h5)) (ev_var rfl) rv_I0)) fun _ => et_and (et_B (ev_is (ev_op (ev_var rfl) (ev_var rfl) (rv_eq rfl)) (by rw [dec_str]))) fun _ => et_inS (ev_var rfl) (el_lst (vs := [_, _]) (ea_cons ev_c (ea_cons ev_c ea_nil)) (by simp))
open PySem PySem.Spec PyProof.Rows L2 Evl Hb TL
def lastL : List Str := ["entries", "standing", "crossings", "answer", "stretch"]
def bf1 (key : Option Str) (k : Str) (bf : Option Int) : Option Int := if some k = key then bf else none
def bf2 (k : Str) (ws : List Str) (bf : Option Int) : Option Int := if k ∈ ([("form" : Str), "answer"] : List Str) then some (numOf (ws[1]?.getD "")) else bf
def fstW (ws : List Str) : Str := ws[0]?.getD ""
def dueGo : List (List Str) → Nat → Option Str → Option Int → Option (Nat × Nat)
  | [], n, key, _ => if (key.any fun k => decide (k ∈ lastL)) = true then none else some (n, 0)
  | ws :: r, n, key, bf => if fstW ws ∈ nextR key then (match wrongR ws (bf1 key (fstW ws) bf) with
      | some j => some (n, j)
      | none => dueGo r (n + 1) (some (fstW ws)) (bf2 (fstW ws) ws (bf1 key (fstW ws) bf)))
    else some (n, 0)
def dueR (rows : List (List Str)) : Option (Nat × Nat) := dueGo rows 0 none none
def dueT : Option (Nat × Nat) → List V
  | none => [.str "right"]
  | some (i, j) => [.str "refused", .int (i : Nat), .int (j : Nat)]
theorem next_ord {key : Option Str} {k : Str} (h : k ∈ nextR key) : k ∈ ordL := by
  cases key with
  | none =>
    have : k = "stop" := by simpa [nextR] using h
    rw [this]; decide +kernel
  | some x =>
    have h : k ∈ nextK x := h
    unfold nextK at h
    split at h
    · rcases List.mem_cons.mp h with h | h
      · rw [h]; decide +kernel
      · rw [List.mem_singleton.mp h]; decide +kernel
    · split at h
      · rename_i hlt
        rw [List.mem_singleton.mp h]
        have hl : ordL.idxOf x + 1 < ordL.length := by show _ < 10; omega
        rw [List.getElem?_eq_getElem hl]
        exact List.getElem_mem hl
      · exact (List.mem_filter.mp h).1
theorem lbad_none : ∀ {ws ks : List Str} {i : Nat}, lbad ws ks i = none → ws.length = ks.length ∧ ∀ (j : Nat) k, ks[j]? = some k → ∃ w, ws[j]? = some w ∧ lfits w k = true
  | [], [], _, _ => ⟨rfl, fun j k h => by simp at h⟩
  | _ :: _, [], i, h => by cases h
  | [], _ :: _, i, h => by cases h
  | w :: ws, k :: ks, i, h => by
    have h : (if lfits w k then lbad ws ks (i + 1) else some i) = none := h
    cases hf : lfits w k with
    | false => rw [hf] at h; cases h
    | true =>
      rw [hf, if_pos rfl] at h
      obtain ⟨h1, h2⟩ := lbad_none h
      refine ⟨by rw [List.length_cons, List.length_cons, h1], fun j x hx => ?_⟩
      cases j with
      | zero => cases hx; exact ⟨w, rfl, hf⟩
      | succ j => exact h2 j x hx
theorem numbered_none {ws ks : List Str} {bf : Option Int} (h : lnumbered ws ks bf = none) : lbad ws ks 0 = none := by
  unfold lnumbered at h
  split at h
  · split at h
    · cases h
    · exact h
  · exact h
theorem numbered_w {ws ks : List Str} {bf : Option Int} (h : lnumbered ws ks bf = none) (hk : ks[1]? = some ("number" : Str)) : ∃ w, ws[1]? = some w ∧ isNum w = true := by
  obtain ⟨w, h1, h2⟩ := (lbad_none (numbered_none h)).2 1 _ hk
  exact ⟨w, h1, by simpa [lfits] using h2⟩
theorem wrong_w {k : Str} {ws : List Str} {bf : Option Int} (h : wrongK k ws bf = none) (hk : k ∈ ([("form" : Str), "answer"] : List Str)) : ∃ w, ws[1]? = some w ∧ isNum w = true := by
  rcases List.mem_cons.mp hk with hk | hk
  · subst hk
    have h : lnumbered ws ["form", "number", "word", "number", "word"] bf = none := by
      unfold wrongK at h
      rw [if_neg (by decide +kernel), if_pos rfl] at h
      exact h
    exact numbered_w h rfl
  · rw [List.mem_singleton.mp hk] at h
    unfold wrongK at h
    rw [if_neg (by decide +kernel), if_neg (by decide +kernel), if_neg (by decide +kernel), if_neg (by decide +kernel), if_neg (by decide +kernel), if_neg (by decide +kernel)] at h
    split at h
    · exact numbered_w h rfl
    · exact numbered_w h rfl
theorem Good.wds {rows : List (List Str)} (G : Good rows) {ws : List Str} (h : ws ∈ rows) : Wds ws := ⟨G.short h, G.cp ws h, G.wid ws h⟩
theorem flat_optS {key : Option Str} : flatV (optS key) = true := by cases key <;> rfl
theorem inV_opt {key : Option Str} {xs : List Str} : inV (optS key) (xs.map V.str) = key.any fun k => decide (k ∈ xs) := by
  cases key with
  | some k => rw [optS, inV_str]; rfl
  | none =>
    show inV .non (xs.map V.str) = false
    unfold inV
    rw [List.any_map]
    exact List.any_eq_false.mpr fun x _ => by simp [eqV]
theorem el_R {sp : Sp} {vs xs : List V} {E : L2.St → XK} {ta : TA} {σ : L2.St} {H : Hp} (h : EvA ta σ H vs) (hs : SpL sp vs H xs) : EvL (Rr.tR sp E ta) σ H xs := fun H1 e Q q =>
  h H1 e _ fun H2 e2 => hs H2 (e.trans e2) Q (fun p H3 hp e3 h3 => q p H3 (fresh_back e2 hp) (e2.trans e3) h3) (E σ)
def sp_ldue : Sp := fun vs H Q _ => ∃ (l : Addr) (rows : List (List Str)), vs = [.ref l] ∧ Rows H l rows ∧ Good rows ∧ ∀ p H2, Ex H H2 → H2 p = some (.tup (dueT (dueR rows))) → Q (.ref p) H2
theorem ok__law_due {P : Program} {w : World} {K : PySem.W.Frag} {mg : Str → Option Value} {base : Heap} (T : Txt P K mg) : FnR P w K mg base (CX0) 6 (f__law_due K) (sp_ldue) := by
  obtain ⟨fd, F⟩ := T.F__law_due
  have F__law_next := ok__law_next (w := w) (base := base) T
  have F__law_wrong := ok__law_wrong (w := w) (base := base) T
  refine Rr.fnR_ok (F.ok sc__law_due (fun vs H Q E h => ?_) (fun cdv A outer s H vs Q E hr h => ?_)) (F.bindsN fun _ _ _ _ _ _ us hl => match us, hl with | [_], _ => rfl)
  · obtain ⟨l, rows, rfl, _⟩ := h
    rfl
  · obtain ⟨l, rows, rfl, h⟩ := h
    have hr__law_next : Room 1 _ := hr.mono (by decide)
    have hr__law_wrong : Room 5 _ := hr.mono (by decide)
    refine ⟨_, PSs.nox (pss_cons (ps_set (i := 1) sc__law_due.nd rfl (Or.inl rfl) pe_non)
      (pss_cons (ps_set (i := 2) sc__law_due.nd rfl (Or.inl rfl) pe_non)
      (pss_cons (ps_for PassesOwn.never rfl (pi_range1 rfl T.b_range (pa_cons (pe_callB call_len_seq rfl T.b_len (by decide +kernel) (pa_cons (pv 0) pa_nil)) pa_nil)) (pg_name (i := 3) sc__law_due.nd rfl (Or.inl rfl)) (pss_cons (ps_set (i := 4) sc__law_due.nd rfl (Or.inl rfl) (pe_ix ix_list (pv 0) (pv 3) (fun _ _ => rfl)))
      (pss_cons (ps_if (pt_cmpR op_notIn_seq (pe_ix ix_list (pv 4) pe_int (fun _ _ => rfl)) (Rr.pe_cR F__law_next hr__law_next T.k__law_next T.g__law_next Rr.pass0 (pa_cons (pv 1) pa_nil)) (by rfl)) (pss_one (ps_ret (pe_tup (pa_cons pe_str (pa_cons (pv 3) (pa_cons pe_int pa_nil)))))) pss_nil)
      (pss_cons (ps_if (pt_cmpR op_ne (pe_ix ix_list (pv 4) pe_int (fun _ _ => rfl)) (pv 1) (nomark _)) (pss_one (ps_set (i := 2) sc__law_due.nd rfl (Or.inl rfl) pe_non)) pss_nil)
      (pss_cons (ps_set (i := 5) sc__law_due.nd rfl (Or.inl rfl) (Rr.pe_cR F__law_wrong hr__law_wrong T.k__law_wrong T.g__law_wrong Rr.pass0 (pa_cons (pv 4) (pa_cons (pv 2) pa_nil))))
      (pss_cons (ps_if (pt_cmpR op_notN (pv 5) pe_non (nomark _)) (pss_one (ps_ret (pe_tup (pa_cons pe_str (pa_cons (pv 3) (pa_cons (pv 5) pa_nil)))))) pss_nil)
      (pss_cons (ps_set (i := 1) sc__law_due.nd rfl (Or.inl rfl) (pe_ix ix_list (pv 4) pe_int (fun _ _ => rfl)))
      (pss_one (ps_if (pt_cmpR op_in_seq (pv 1) (pe_lst (pa_cons pe_str (pa_cons pe_str pa_nil))) (by rfl)) (pss_one (ps_set (i := 2) sc__law_due.nd rfl (Or.inl rfl) (pe_callTy call_int_str rfl T.b_int (by decide +kernel) (pa_cons (pe_ix ix_list (pv 4) pe_int (fun _ _ => rfl)) pa_nil)))) pss_nil)))))))))
      (pss_cons (ps_if (pt_cmpR op_notIn_seq (pv 1) (pe_lst (pa_cons pe_str (pa_cons pe_str (pa_cons pe_str (pa_cons pe_str (pa_cons pe_str pa_nil)))))) (by rfl)) (pss_one (ps_ret (pe_tup (pa_cons pe_str (pa_cons (pe_callB call_len_seq rfl T.b_len (by decide +kernel) (pa_cons (pv 0) pa_nil)) (pa_cons pe_int pa_nil)))))) pss_nil)
      (pss_one (ps_ret (pe_tup (pa_cons pe_str pa_nil)))))))), ?_⟩
    obtain ⟨R, G, k⟩ := h
    have hlen := G.len
    obtain ⟨as, hl, hal, _⟩ := id R
    show tSeq _ _ _ [some (V.ref l), none, none, none, none, none] H
    refine q_asg (v := .non) ev_c fun H1 e1 => ?_
    refine q_asg (v := .non) ev_c fun H2 e2 => ?_
    have e2 := e1.trans e2
    have R2 := R.ex e2
    have hl2 := e2 _ _ hl
    clear e1
    have tup : ∀ {H3 : Hp} {σ : L2.St} {ta tb : TE} {i j : Nat}, Ex H H3 → dueR rows = some (i, j) → Ev ta σ H3 (.int i) → Ev tb σ H3 (.int j) → tRet (tTup (tCons (tC (.str "refused")) (tCons ta (tCons tb tNil)))) { nx := fun _ _ => False, rt := Q, bk := fun _ _ => False, ct := fun _ _ => False } σ H3 := fun {H3 σ ta tb i j} e hd ha hb => by
      rw [hd] at k
      exact s_retU (eu_tup (ea_cons ev_c (ea_cons ha (ea_cons hb ea_nil))) (by simp)) fun p H4 _ e4 h4 => k p H4 (e.trans e4) h4
    show tSeq _ _ _ [some (V.ref l), some .non, some .non, none, none, none] H2
    refine q_forR1 (n := (rows.length : Nat)) (ea_cons (ev_is (ev_cb (ea_cons (ev_var rfl) ea_nil) (rc_len_l (sq_of hl2))) (by rw [List.length_map, hal])) ea_nil) (by omega) (fun i σ' H' => ∃ key bf w3 w4 w5, σ' = [some (V.ref l), some (optS key), some (optI bf), w3, w4, w5] ∧ Ex H H' ∧ (∀ k, key = some k → k ∈ ordL) ∧ dueR rows = dueGo (rows.drop i) i key bf) (fun H3 e3 => ⟨none, none, _, _, _, rfl, e2.trans e3, (fun k hk => by cases hk), rfl⟩) (fun i σ' H' hi hP => ?_) (fun σ' H' hP => ?_)
    · obtain ⟨key, bf, w3, w4, w5, rfl, e3, hko, hd⟩ := hP
      have hi : i < rows.length := by omega
      have hri : rows[i]? = some rows[i] := List.getElem?_eq_getElem hi
      have hm : rows[i] ∈ rows := List.getElem_mem hi
      rw [List.drop_eq_getElem_cons hi] at hd
      generalize rows[i] = wss at hri hm hd
      cases wss with
      | nil => exact absurd rfl (G.ne _ hm)
      | cons x ws =>
      have W := G.wds hm
      have hd : dueR rows = if x ∈ nextR key then (match wrongR (x :: ws) (bf1 key x bf) with
          | some j => some (i, j)
          | none => dueGo (rows.drop (i + 1)) (i + 1) (some x) (bf2 x (x :: ws) (bf1 key x bf)))
        else some (i, 0) := hd
      have R3 := R.ex e3
      obtain ⟨as3, a, h31, h32, ha, h33⟩ := R3.get hri
      dsimp only [List.set]
      refine q_asg (v := .ref a) (ev_op (ev_var rfl) (ev_var rfl) (rv_ixL (sq_of h31) (atI_nat (by rw [List.getElem?_map, ha]; rfl)))) fun H4 e4 => ?_
      have h4 := e4 _ _ h33
      have e4 := e3.trans e4
      clear h33 h31 e3 R3
      show tSeq _ _ _ [some (V.ref l), some (optS key), some (optI bf), some (.int (i : Nat)), some (.ref a), w5] H4
      have w0 : ∀ {H5 : Hp} {σ : L2.St}, Ex H4 H5 → σ[4]? = some (some (V.ref a)) → Ev (tOp (rIxL K) (tVar 4) (tC (.int 0))) σ H5 (.str x) := fun {H5 σ} e5 hσ => ev_op (ev_var hσ) ev_c (rv_ixL (sq_of (e5 _ _ h4)) (atI_map (xs := x :: ws) (i := 0) rfl))
      refine q_when (b := !decide (x ∈ nextR key)) (et_ninS (w0 (Ex.refl _) rfl) (el_R (vs := [optS key]) (ea_cons (ev_var rfl) ea_nil) fun H5 e5 Q q E => ⟨key, rfl, hko, q⟩)) (fun hb H5 e5 => ?_) (fun hb H5 e5 => ?_)
      · have hn : ¬ x ∈ nextR key := by simpa using hb
        rw [if_neg hn] at hd
        exact tup (e4.trans e5) hd (ev_var rfl) ev_c
      have hn : x ∈ nextR key := by simpa using hb
      rw [if_pos hn] at hd
      refine q_ifAsg (b := !decide (V.str x = optS key)) (v := optI (bf1 key x bf)) (et_B (ev_op (w0 e5 rfl) (ev_var rfl) (rv_ne (by cases key <;> rfl)))) (fun hb => ?_) (fun hb => ?_) fun H6 e6 => ?_
      · have h : ¬ some x = key := fun z => by subst z; simp [optS] at hb
        have hz : bf1 key x bf = none := if_neg h
        rw [hz]
        exact ev_c
      · have h : some x = key := by
          cases key with
          | none => simp [optS] at hb
          | some y => have : x = y := by simpa [optS] using hb
                      rw [this]
        have hz : bf1 key x bf = bf := if_pos h
        rw [hz]; rfl
      generalize bf1 key x bf = bfn at hd
      dsimp only [List.set]
      have e56 := e5.trans e6
      have e6 := e4.trans e56
      clear e4 hb e5
      refine q_asg (v := optV (wrongR (x :: ws) bfn)) (ev_R (vs := [.ref a, optI bfn]) (ea_cons (ev_var rfl) (ea_cons (ev_var rfl) ea_nil)) fun H7 e7 Q q E => ⟨a, x, ws, bfn, rfl, (e56.trans e7) _ _ h4, W, q⟩) fun H7 e7 => ?_
      have e47 := e56.trans e7
      have e7 := e6.trans e7
      clear e56 e6
      dsimp only [List.set]
      refine q_when (et_notN (ev_var rfl) rfl) (fun hb H8 e8 => ?_) (fun hb H8 e8 => ?_)
      · cases hq : wrongR (x :: ws) bfn with
        | none => rw [hq] at hb; simp [optV] at hb
        | some j =>
          rw [hq] at hd
          exact tup (e7.trans e8) hd (ev_var rfl) (ev_var rfl)
      have hq : wrongR (x :: ws) bfn = none := by
        cases hq : wrongR (x :: ws) bfn with
        | none => rfl
        | some j => rw [hq] at hb; simp [optV] at hb
      rw [hq] at hd
      have hq' : wrongK x (x :: ws) bfn = none := hq
      have hd : dueR rows = dueGo (rows.drop (i + 1)) (i + 1) (some x) (bf2 x (x :: ws) bfn) := hd
      have e48 := e47.trans e8
      have e8 := e7.trans e8
      clear hb e47 e7
      refine q_asg (v := .str x) (w0 e48 rfl) fun H9 e9 => ?_
      dsimp only [List.set]
      have e49 := e48.trans e9
      have e9 := e8.trans e9
      clear e48 e8
      refine s_ifAsg (b := decide (x ∈ ([("form" : Str), "answer"] : List Str))) (v := optI (bf2 x (x :: ws) bfn)) (et_inS (ev_var rfl) (el_lst (vs := [_, _]) (ea_cons ev_c (ea_cons ev_c ea_nil)) (by simp))) (fun hb => ?_) (fun hb => ?_) fun H10 e10 => ?_
      · have hk := of_decide_eq_true hb
        obtain ⟨w, hw1, hw2⟩ := wrong_w hq' hk
        have hz : bf2 x (x :: ws) bfn = some (numOf w) := by unfold bf2; rw [if_pos hk, hw1]; rfl
        rw [hz]
        exact ev_tInt (i := 4) (j := 1) rfl (e49 _ _ h4) hw1 hw2
      · have hk := of_decide_eq_false hb
        have hz : bf2 x (x :: ws) bfn = bfn := by unfold bf2; rw [if_neg hk]
        rw [hz]; rfl
      · dsimp only [List.set]
        exact ⟨some x, bf2 x (x :: ws) bfn, _, _, _, rfl, e9.trans e10, fun y hy => by cases hy; exact next_ord hn, hd⟩
    · obtain ⟨key, bf, w3, w4, w5, rfl, e3, hko, hd⟩ := hP
      rw [Int.toNat_natCast, List.drop_length] at hd
      have hd : dueR rows = if (key.any fun k => decide (k ∈ lastL)) = true then none else some (rows.length, 0) := hd
      refine q_when (b := !(key.any fun k => decide (k ∈ lastL))) (et_B (ev_is (ev_isL (neg := true) (ev_var rfl) (el_lst (vs := lastL.map V.str) (ea_cons ev_c (ea_cons ev_c (ea_cons ev_c (ea_cons ev_c (ea_cons ev_c ea_nil))))) (by decide)) flat_optS flat_strs) (by rw [if_pos rfl, inV_opt]))) (fun hb H4 e4 => ?_) (fun hb H4 e4 => ?_)
      · have hb : (key.any fun k => decide (k ∈ lastL)) = false := by simpa using hb
        rw [if_neg (by simp [hb])] at hd
        exact tup (e3.trans e4) hd (ev_is (ev_cb (ea_cons (ev_var rfl) ea_nil) (rc_len_l (sq_of ((e3.trans e4) _ _ hl)))) (by rw [List.length_map, hal])) ev_c
      · have hb : (key.any fun k => decide (k ∈ lastL)) = true := by simpa using hb
        rw [if_pos hb] at hd
        rw [hd] at k
        exact s_retU (eu_tup (ea_cons ev_c ea_nil) (by simp)) fun p H5 _ e5 h5 => k p H5 ((e3.trans e4).trans e5) h5
open PySem PySem.Spec PyProof.Rows L2 Evl Hb TL
section
variable {K : PySem.W.Frag} {σ : L2.St} {H : Hp} {te : TE}
theorem et_isiT {x : V} {t : Value} {b : Bool} (hx : Ev te σ H x) (ty : ∀ H1, Ex H H1 → TyX K H1 x t) (hk : PySem.W.kitAny K t [.type "tuple", .type "list"] = some b) :
    EvT (tB (tCB (rIsiT K) (tCons te (tCons (tTup (tCons (tC (.ty "tuple")) (tCons (tC (.ty "list")) tNil))) tNil)))) σ H b := fun H1 e Q q =>
  hx H1 e _ fun H2 e2 => (eu_tup (vs := [.ty "tuple", .ty "list"]) (ea_cons ev_c (ea_cons ev_c ea_nil)) (by simp)) H2 (e.trans e2) _ fun p H3 _ e3 h3 =>
    ⟨x, p, [.ty "tuple", .ty "list"], t, [.type "tuple", .type "list"], b, rfl, h3, .cons (.ty _) (.cons (.ty _) .nil), ty H3 ((e.trans e2).trans e3), hk, b, rfl, q H3 (e2.trans e3)⟩
theorem et_truth {b : Bool} (h : Ev te σ H (.bl b)) : EvT (fun σ H Q => te σ H fun x H' => ∃ k, TruV K x H' k ∧ Q k H') σ H b := fun H1 e Q q => h H1 e _ fun H2 e2 => ⟨b, rfl, q H2 e2⟩
theorem ev_isi {x : V} {t : Value} {b : Bool} {n : String} (hx : Ev te σ H x) (ty : ∀ H1, Ex H H1 → TyX K H1 x t) (hk : PySem.W.kitOne K t (.type n) = some b) : Ev (tCB (rIsi K) (tCons te (tCons (tC (.ty n)) tNil))) σ H (.bl b) := fun H1 e Q q =>
  hx H1 e _ fun H2 e2 => ⟨x, .ty n, t, .type n, b, rfl, .ty n, ty H2 (e.trans e2), hk, q H2 e2⟩
end
theorem ka_no {K : PySem.W.Frag} {n : String} (h1 : kitB n "tuple" = some false) (h2 : kitB n "list" = some false) : PySem.W.kitAny K (.type n) [.type "tuple", .type "list"] = some false :=
  kitAny_cons (b := false) (kit_ty h1) (fun _ => kitAny_cons (b := false) (kit_ty h2) (fun _ => kitAny_nil) (fun h => by cases h)) (fun h => by cases h)
def Flt (v : V) : Prop := (∃ i : Int, v = .int i) ∨ ∃ s : Str, v = .str s
def sp_same0 : Sp := fun vs H Q _ => ∃ v : V, vs = [v, v] ∧ Flt v ∧ RetV (.bl true) H Q
theorem ok__law_same0 {P : Program} {w : World} {K : PySem.W.Frag} {mg : Str → Option Value} {base : Heap} (T : Txt P K mg) : FnR P w K mg base (CX0) 1 (f__law_same K) (sp_same0) := by
  obtain ⟨fd, F⟩ := T.F__law_same
  have F__law_same : FnR P w K mg base CX0 0 (f__law_same K) (fun _ _ _ _ => False) := fun _ _ _ _ _ _ _ _ _ _ _ h => h.elim
  refine Rr.fnR_ok (F.ok sc__law_same (fun vs H Q E h => ?_) (fun cdv A outer s H vs Q E hr h => ?_)) (F.bindsN fun _ _ _ _ _ _ us hl => match us, hl with | [_, _], _ => rfl)
  · obtain ⟨v, rfl, _⟩ := h
    rfl
  · obtain ⟨v, rfl, hv, k⟩ := h
    have hr__law_same : Room 0 _ := hr
    refine ⟨_, PSs.nox (pss_cons (ps_if (pt_val (pe_callB call_isiT rfl T.b_isinstance (by decide +kernel) (pa_cons (pv 1) (pa_cons (pe_tup (pa_cons (pe_bltn (v := .ty "tuple") (u := .type "tuple") rfl T.b_tuple (by decide +kernel) rfl) (pa_cons (pe_bltn (v := .ty "list") (u := .type "list") rfl T.b_list (by decide +kernel) rfl) pa_nil))) pa_nil)))) (pss_cons (ps_if (PW.pt (pw_or (pt_cmpR op_ne (pe_callB call_isi rfl T.b_isinstance (by decide +kernel) (pa_cons (pv 1) (pa_cons (pe_bltn (v := .ty "tuple") (u := .type "tuple") rfl T.b_tuple (by decide +kernel) rfl) pa_nil))) (pe_callB call_isi rfl T.b_isinstance (by decide +kernel) (pa_cons (pv 0) (pa_cons (pe_bltn (v := .ty "tuple") (u := .type "tuple") rfl T.b_tuple (by decide +kernel) rfl) pa_nil))) (nomark _)) (pw_or1 (pt_not (pt_val (pe_callB call_isiT rfl T.b_isinstance (by decide +kernel) (pa_cons (pv 0) (pa_cons (pe_tup (pa_cons (pe_bltn (v := .ty "tuple") (u := .type "tuple") rfl T.b_tuple (by decide +kernel) rfl) (pa_cons (pe_bltn (v := .ty "list") (u := .type "list") rfl T.b_list (by decide +kernel) rfl) pa_nil))) pa_nil)))))))) (pss_one (ps_ret pe_bl)) pss_nil)
      (pss_cons (ps_if (pt_cmpR op_ne (pe_callB call_len_seq rfl T.b_len (by decide +kernel) (pa_cons (pv 0) pa_nil)) (pe_callB call_len_seq rfl T.b_len (by decide +kernel) (pa_cons (pv 1) pa_nil)) (nomark _)) (pss_one (ps_ret pe_bl)) pss_nil)
      (pss_cons (ps_for PassesOwn.never rfl (pi_range1 rfl T.b_range (pa_cons (pe_callB call_len_seq rfl T.b_len (by decide +kernel) (pa_cons (pv 1) pa_nil)) pa_nil)) (pg_name (i := 2) sc__law_same.nd rfl (Or.inl rfl)) (pss_one (ps_if (pt_not (pt_truth (Rr.pe_cR F__law_same hr__law_same T.k__law_same T.g__law_same Rr.pass0 (pa_cons (pe_ix ix_tup (pv 0) (pv 2) (fun _ _ => rfl)) (pa_cons (pe_ix ix_tup (pv 1) (pv 2) (fun _ _ => rfl)) pa_nil))) (by intro _; rfl))) (pss_one (ps_ret pe_bl)) pss_nil)))
      (pss_one (ps_ret pe_bl))))) pss_nil)
      (pss_cons (ps_if (pt_cmpR op_isN (pv 1) pe_non (nomark _)) (pss_one (ps_ret (pe_cmpR op_isN (pv 0) pe_non (nomark _)))) pss_nil)
      (pss_cons (ps_if (pt_val (pe_callB call_isi rfl T.b_isinstance (by decide +kernel) (pa_cons (pv 1) (pa_cons (pe_bltn (v := .ty "bool") (u := .type "bool") rfl T.b_bool (by decide +kernel) rfl) pa_nil)))) (pss_one (ps_ret (pe_and (pe_callB call_isi rfl T.b_isinstance (by decide +kernel) (pa_cons (pv 0) (pa_cons (pe_bltn (v := .ty "bool") (u := .type "bool") rfl T.b_bool (by decide +kernel) rfl) pa_nil))) (pe_one (pe_cmpR op_eq (pv 0) (pv 1) (nomark _)))))) pss_nil)
      (pss_cons (ps_if (pt_val (pe_callB call_isi rfl T.b_isinstance (by decide +kernel) (pa_cons (pv 1) (pa_cons (pe_bltn (v := .ty "int") (u := .type "int") rfl T.b_int (by decide +kernel) rfl) pa_nil)))) (pss_one (ps_ret (pe_and (pe_callB call_isi rfl T.b_isinstance (by decide +kernel) (pa_cons (pv 0) (pa_cons (pe_bltn (v := .ty "int") (u := .type "int") rfl T.b_int (by decide +kernel) rfl) pa_nil))) (pe_and (pe_not (pe_callB call_isi rfl T.b_isinstance (by decide +kernel) (pa_cons (pv 0) (pa_cons (pe_bltn (v := .ty "bool") (u := .type "bool") rfl T.b_bool (by decide +kernel) rfl) pa_nil)))) (pe_one (pe_cmpR op_eq (pv 0) (pv 1) (nomark _))))))) pss_nil)
      (pss_one (ps_ret (pe_and (pe_callB call_isi rfl T.b_isinstance (by decide +kernel) (pa_cons (pv 0) (pa_cons (pe_bltn (v := .ty "str") (u := .type "str") rfl T.b_str (by decide +kernel) rfl) pa_nil))) (pe_one (pe_cmpR op_eq (pv 0) (pv 1) (nomark _)))))))))), ?_⟩
    show tSeq _ _ _ [some v, some v, none] H
    rcases hv with ⟨i, rfl⟩ | ⟨s, rfl⟩
    · have ty : ∀ H1, TyX K H1 (.int i) (.type "int") := fun H1 => .base (.int i)
      refine q_when (b := false) (et_isiT (ev_var rfl) (fun H1 _ => ty H1) (ka_no (by decide +kernel) (by decide +kernel))) (fun hb => by cases hb) (fun _ H1 e1 => ?_)
      refine q_when (b := false) (et_isN (ev_var rfl) (by rfl)) (fun hb => by cases hb) (fun _ H2 e2 => ?_)
      refine q_when (b := false) (et_B (ev_isi (ev_var rfl) (fun H1 _ => ty H1) (kit_ty (by decide +kernel)))) (fun hb => by cases hb) (fun _ H3 e3 => ?_)
      refine q_when (b := true) (et_B (ev_isi (ev_var rfl) (fun H1 _ => ty H1) (kit_ty (by decide +kernel)))) (fun _ H4 e4 => ?_) (fun hb => by cases hb)
      refine s_ret (v := .bl true) (ev_is (ev_andV (ev_isi (ev_var rfl) (fun H1 _ => ty H1) (b := true) (kit_ty (by decide +kernel))) fun _ => ev_andV (ev_notV (ev_isi (ev_var rfl) (fun H1 _ => ty H1) (b := false) (kit_ty (by decide +kernel)))) fun _ => ev_op (ev_var rfl) (ev_var rfl) (rv_eq rfl)) (by simp)) fun H5 e5 => k H5 ((((e1.trans e2).trans e3).trans e4).trans e5)
    · have ty : ∀ H1, TyX K H1 (.str s) (.type "str") := fun H1 => .base (.str s)
      refine q_when (b := false) (et_isiT (ev_var rfl) (fun H1 _ => ty H1) (ka_no (by decide +kernel) (by decide +kernel))) (fun hb => by cases hb) (fun _ H1 e1 => ?_)
      refine q_when (b := false) (et_isN (ev_var rfl) (by rfl)) (fun hb => by cases hb) (fun _ H2 e2 => ?_)
      refine q_when (b := false) (et_B (ev_isi (ev_var rfl) (fun H1 _ => ty H1) (kit_ty (by decide +kernel)))) (fun hb => by cases hb) (fun _ H3 e3 => ?_)
      refine q_when (b := false) (et_B (ev_isi (ev_var rfl) (fun H1 _ => ty H1) (kit_ty (by decide +kernel)))) (fun hb => by cases hb) (fun _ H4 e4 => ?_)
      refine s_ret (v := .bl true) (ev_is (ev_andV (ev_isi (ev_var rfl) (fun H1 _ => ty H1) (b := true) (kit_ty (by decide +kernel))) fun _ => ev_op (ev_var rfl) (ev_var rfl) (rv_eq rfl)) (by simp)) fun H5 e5 => k H5 ((((e1.trans e2).trans e3).trans e4).trans e5)
def sp_same : Sp := fun vs H Q _ => ∃ (p q : Addr) (xs : List V), vs = [.ref p, .ref q] ∧ H p = some (.tup xs) ∧ H q = some (.tup xs) ∧ (∀ v ∈ xs, Flt v) ∧ xs.length ≤ 1000 ∧ RetV (.bl true) H Q
theorem ok__law_same {P : Program} {w : World} {K : PySem.W.Frag} {mg : Str → Option Value} {base : Heap} (T : Txt P K mg) : FnR P w K mg base (CX0) 2 (f__law_same K) (sp_same) := by
  obtain ⟨fd, F⟩ := T.F__law_same
  have F__law_same := ok__law_same0 (w := w) (base := base) T
  refine Rr.fnR_ok (F.ok sc__law_same (fun vs H Q E h => ?_) (fun cdv A outer s H vs Q E hr h => ?_)) (F.bindsN fun _ _ _ _ _ _ us hl => match us, hl with | [_, _], _ => rfl)
  · obtain ⟨p, q, xs, rfl, _⟩ := h
    rfl
  · obtain ⟨p, q, xs, rfl, hp, hq, hx, hl, k⟩ := h
    have hr__law_same : Room 1 _ := hr
    refine ⟨_, PSs.nox (pss_cons (ps_if (pt_val (pe_callB call_isiT rfl T.b_isinstance (by decide +kernel) (pa_cons (pv 1) (pa_cons (pe_tup (pa_cons (pe_bltn (v := .ty "tuple") (u := .type "tuple") rfl T.b_tuple (by decide +kernel) rfl) (pa_cons (pe_bltn (v := .ty "list") (u := .type "list") rfl T.b_list (by decide +kernel) rfl) pa_nil))) pa_nil)))) (pss_cons (ps_if (PW.pt (pw_or (pt_cmpR op_ne (pe_callB call_isi rfl T.b_isinstance (by decide +kernel) (pa_cons (pv 1) (pa_cons (pe_bltn (v := .ty "tuple") (u := .type "tuple") rfl T.b_tuple (by decide +kernel) rfl) pa_nil))) (pe_callB call_isi rfl T.b_isinstance (by decide +kernel) (pa_cons (pv 0) (pa_cons (pe_bltn (v := .ty "tuple") (u := .type "tuple") rfl T.b_tuple (by decide +kernel) rfl) pa_nil))) (nomark _)) (pw_or1 (pt_not (pt_val (pe_callB call_isiT rfl T.b_isinstance (by decide +kernel) (pa_cons (pv 0) (pa_cons (pe_tup (pa_cons (pe_bltn (v := .ty "tuple") (u := .type "tuple") rfl T.b_tuple (by decide +kernel) rfl) (pa_cons (pe_bltn (v := .ty "list") (u := .type "list") rfl T.b_list (by decide +kernel) rfl) pa_nil))) pa_nil)))))))) (pss_one (ps_ret pe_bl)) pss_nil)
      (pss_cons (ps_if (pt_cmpR op_ne (pe_callB call_len_seq rfl T.b_len (by decide +kernel) (pa_cons (pv 0) pa_nil)) (pe_callB call_len_seq rfl T.b_len (by decide +kernel) (pa_cons (pv 1) pa_nil)) (nomark _)) (pss_one (ps_ret pe_bl)) pss_nil)
      (pss_cons (ps_for PassesOwn.never rfl (pi_range1 rfl T.b_range (pa_cons (pe_callB call_len_seq rfl T.b_len (by decide +kernel) (pa_cons (pv 1) pa_nil)) pa_nil)) (pg_name (i := 2) sc__law_same.nd rfl (Or.inl rfl)) (pss_one (ps_if (pt_not (pt_truth (Rr.pe_cR F__law_same hr__law_same T.k__law_same T.g__law_same Rr.pass0 (pa_cons (pe_ix ix_tup (pv 0) (pv 2) (fun _ _ => rfl)) (pa_cons (pe_ix ix_tup (pv 1) (pv 2) (fun _ _ => rfl)) pa_nil))) (by intro _; rfl))) (pss_one (ps_ret pe_bl)) pss_nil)))
      (pss_one (ps_ret pe_bl))))) pss_nil)
      (pss_cons (ps_if (pt_cmpR op_isN (pv 1) pe_non (nomark _)) (pss_one (ps_ret (pe_cmpR op_isN (pv 0) pe_non (nomark _)))) pss_nil)
      (pss_cons (ps_if (pt_val (pe_callB call_isi rfl T.b_isinstance (by decide +kernel) (pa_cons (pv 1) (pa_cons (pe_bltn (v := .ty "bool") (u := .type "bool") rfl T.b_bool (by decide +kernel) rfl) pa_nil)))) (pss_one (ps_ret (pe_and (pe_callB call_isi rfl T.b_isinstance (by decide +kernel) (pa_cons (pv 0) (pa_cons (pe_bltn (v := .ty "bool") (u := .type "bool") rfl T.b_bool (by decide +kernel) rfl) pa_nil))) (pe_one (pe_cmpR op_eq (pv 0) (pv 1) (nomark _)))))) pss_nil)
      (pss_cons (ps_if (pt_val (pe_callB call_isi rfl T.b_isinstance (by decide +kernel) (pa_cons (pv 1) (pa_cons (pe_bltn (v := .ty "int") (u := .type "int") rfl T.b_int (by decide +kernel) rfl) pa_nil)))) (pss_one (ps_ret (pe_and (pe_callB call_isi rfl T.b_isinstance (by decide +kernel) (pa_cons (pv 0) (pa_cons (pe_bltn (v := .ty "int") (u := .type "int") rfl T.b_int (by decide +kernel) rfl) pa_nil))) (pe_and (pe_not (pe_callB call_isi rfl T.b_isinstance (by decide +kernel) (pa_cons (pv 0) (pa_cons (pe_bltn (v := .ty "bool") (u := .type "bool") rfl T.b_bool (by decide +kernel) rfl) pa_nil)))) (pe_one (pe_cmpR op_eq (pv 0) (pv 1) (nomark _))))))) pss_nil)
      (pss_one (ps_ret (pe_and (pe_callB call_isi rfl T.b_isinstance (by decide +kernel) (pa_cons (pv 0) (pa_cons (pe_bltn (v := .ty "str") (u := .type "str") rfl T.b_str (by decide +kernel) rfl) pa_nil))) (pe_one (pe_cmpR op_eq (pv 0) (pv 1) (nomark _)))))))))), ?_⟩
    show tSeq _ _ _ [some (V.ref p), some (.ref q), none] H
    have tyP : ∀ H1, Ex H H1 → TyX K H1 (.ref p) (.type "tuple") := fun H1 e => .base (.tup (e _ _ hp))
    have tyQ : ∀ H1, Ex H H1 → TyX K H1 (.ref q) (.type "tuple") := fun H1 e => .base (.tup (e _ _ hq))
    refine q_when (b := true) (et_isiT (ev_var rfl) tyQ (kitAny_cons (b := true) (kit_ty (by decide +kernel)) (fun h => by cases h) (fun _ => rfl))) (fun _ H1 e1 => ?_) (fun hb => by cases hb)
    refine q_when (b := false) (et_is (et_or (et_B (ev_op (ev_isi (ev_var rfl) (fun H2 e2 => tyQ H2 (e1.trans e2)) (b := true) (kit_ty (by decide +kernel))) (ev_isi (ev_var rfl) (fun H2 e2 => tyP H2 (e1.trans e2)) (b := true) (kit_ty (by decide +kernel))) (rv_ne rfl))) fun _ => et_not (et_isiT (b := true) (ev_var rfl) (fun H2 e2 => tyP H2 (e1.trans e2)) (kitAny_cons (b := true) (kit_ty (by decide +kernel)) (fun h => by cases h) (fun _ => rfl)))) (by simp)) (fun hb => by cases hb) (fun _ H2 e2 => ?_)
    have e2 := e1.trans e2
    refine q_when (b := false) (et_is (et_B (ev_op (ev_cb (ea_cons (ev_var rfl) ea_nil) (rc_len_t (st_of (e2 _ _ hp)))) (ev_cb (ea_cons (ev_var rfl) ea_nil) (rc_len_t (st_of (e2 _ _ hq)))) (rv_ne rfl))) (by simp)) (fun hb => by cases hb) (fun _ H3 e3 => ?_)
    have e3 := e2.trans e3
    refine q_forR1 (n := (xs.length : Nat)) (ea_cons (ev_cb (ea_cons (ev_var rfl) ea_nil) (rc_len_t (st_of (e3 _ _ hq)))) ea_nil) (by omega) (fun i σ' H' => ∃ x, σ' = [some (V.ref p), some (.ref q), x] ∧ Ex H H') (fun H4 e4 => ⟨_, rfl, e3.trans e4⟩) (fun i σ' H' hi hP => ?_) (fun σ' H' hP => ?_)
    · obtain ⟨x, rfl, e4⟩ := hP
      have hxi : xs[i]? = some xs[i] := List.getElem?_eq_getElem (by omega)
      generalize xs[i] = v at hxi
      dsimp only [List.set]
      refine s_when (b := false) (et_is (et_not (et_truth (b := true) (ev_R (vs := [v, v]) (ea_cons (ev_op (ev_var rfl) (ev_var rfl) (rv_ixT (st_of (e4 _ _ hp)) (atI_nat hxi))) (ea_cons (ev_op (ev_var rfl) (ev_var rfl) (rv_ixT (st_of (e4 _ _ hq)) (atI_nat hxi))) ea_nil)) fun H5 e5 Q q E => ⟨v, rfl, hx v (List.mem_of_getElem? hxi), q⟩))) rfl) (fun hb => by cases hb) (fun _ H5 e5 => ⟨_, rfl, e4.trans e5⟩)
    · obtain ⟨x, rfl, e4⟩ := hP
      exact s_ret (v := .bl true) ev_c fun H5 e5 => k H5 (e4.trans e5)
theorem dueT_flt {d : Option (Nat × Nat)} : ∀ v ∈ dueT d, Flt v := by
  cases d with
  | none => intro v hv; rw [List.mem_singleton.mp hv]; exact .inr ⟨_, rfl⟩
  | some ij =>
    intro v hv
    have hv : v ∈ [V.str "refused", .int (ij.1 : Nat), .int (ij.2 : Nat)] := hv
    rcases List.mem_cons.mp hv with hv | hv
    · rw [hv]; exact .inr ⟨_, rfl⟩
    rcases List.mem_cons.mp hv with hv | hv
    · rw [hv]; exact .inl ⟨_, rfl⟩
    · rw [List.mem_singleton.mp hv]; exact .inl ⟨_, rfl⟩
theorem dueT_len {d : Option (Nat × Nat)} : (dueT d).length ≤ 1000 := by
  cases d with
  | none => exact Nat.le_of_ble_eq_true rfl
  | some ij => exact Nat.le_of_ble_eq_true rfl
end Cs
namespace L2
open PySem PySem.Spec PyProof.Rows
def rIsED (K : PySem.W.Frag) (cls : Value) (a : Addr) (d : Option Addr) : List V → Hp → VK → Prop := fun xs H Q => ∃ (D dd : Addr) (fs : List (Str × V)) (c : V) (cv : Value) (b : Bool), cls = .ref D ∧ d = some dd ∧ H dd = some (.xd fs) ∧ ExcC K D ∧ xs = [.ref a, c] ∧
  (∀ u, RelV c u → u = cv) ∧ PySem.W.kitOne K (.ref D) cv = some b ∧ Q (.bl b) H
theorem call_isED {X : Cx} {a : Addr} {oe : Obj} {cls : Value} {d : Option Addr} {pn : List (Addr × Obj)} (hz : Zc cls d oe) (hf : ∃ vs, oe.data = .fields vs) : CallR (X.suite a ((a, oe) :: pn)) (.builtin "isinstance") (rIsED X.K cls a d) := by
  intro pins s σ H xs us Q I r h
  obtain ⟨D, dd, fs, c, cv, b, rfl, rfl, ea, C, rfl, hcv, e, q⟩ := h
  cases r with
  | cons rx rr =>
    cases rr with
    | cons rt rr =>
      cases rr
      cases rx
      have ec := hcv _ rt
      subst ec
      obtain ⟨hget, _⟩ := I.pin (a, oe) (List.mem_append.mpr (.inl List.mem_cons_self))
      obtain ⟨vs, hv⟩ := hf
      have hx : ObjOk X.prog X.w H s.heap dd (.xd fs) := I.hok dd _ ea
      obtain ⟨mA, hns, hr⟩ := hx
      obtain ⟨od, ho, hl⟩ := lookIn_ns hns
      have J : PySem.W.InstAt s.heap a oe D (some od) := ⟨hget, hz.1, by unfold PySem.W.notCls; rw [hv] <;> rfl, by rw [hz.2]; exact ho⟩
      have hcl : (PySem.W.clsIn X.K D).isSome = true := by
        obtain ⟨cd, hc, _⟩ := PySem.W.any_some C.hd
        rw [hc]; rfl
      exact PySem.W.kia_one (PySem.W.kitx_exc hcl C.hg C.hk C.hs C.ha C.hn C.ht C.hm) I.kIn J e (fun z => nomatch z) fun tk => ⟨.bl b, H, I.kept (t' := tk) fun _ _ z => z, rfl, q⟩
end L2
namespace Cs
open PySem PySem.Spec PyProof.Rows L2 Evl Hb TL
section
variable {K : PySem.W.Frag} {σ : L2.St} {H : Hp} {te : TE}
theorem et_isE {a dd D T : Addr} {fs : List (Str × V)} {b : Bool} (h : σ[1]? = some (some (.ref a))) (hd : H dd = some (.xd fs)) (C : ExcC K D) (hk : PySem.W.kitOne K (.ref D) (.ref T) = some b) : EvT (tB (tCB (rIsED K (.ref D) a (some dd)) (tCons (tVar 1) (tCons (tC (.ref T)) tNil)))) σ H b := fun H1 e Q q =>
  ⟨_, h, D, dd, fs, .ref T, .ref T, b, rfl, rfl, e _ _ hd, C, rfl, fun u hu => hu, hk, b, rfl, q H1 (Ex.refl _)⟩
theorem ev_xf {a dd C : Addr} {f : Str} {fs : List (Str × V)} {v : V} (h : Ev te σ H (.ref a)) (hd : H dd = some (.xd fs)) (hl : fs.lookup f = some v) : Ev (tXf a (.ref C) (some dd) C f te) σ H v := fun H1 e Q q =>
  h H1 e _ fun H2 e2 => ⟨rfl, rfl, dd, fs, v, rfl, e2 _ _ (e _ _ hd), hl, q H2 e2⟩
end
def errOf (rd : Except (Nat × Nat) Unit) : Option (Nat × Nat) := match rd with
  | .error e => some e
  | .ok _ => none
def sp_asked : Sp := fun vs H Q _ => ∃ t : Str, vs = [.str t] ∧ t.length ≤ 90000 ∧ Good (rowsOf t) ∧ ∀ p H2, Ex H H2 → H2 p = some (.tup (dueT (errOf (readR (rowsOf t))))) → Q (.ref p) H2
theorem ok__law_asked {P : Program} {w : World} {K : PySem.W.Frag} {mg : Str → Option Value} {base : Heap} (T : Txt P K mg) : FnR P w K mg base (CX0) 12 (f__law_asked K) (sp_asked) := by
  obtain ⟨fd, F⟩ := T.F__law_asked
  have F_read_rewrite := ok_read_rewrite (w := w) (base := base) T
  refine Rr.fnR_ok (F.ok sc__law_asked (fun vs H Q E h => ?_) (fun cdv A outer s H vs Q E hr h => ?_)) (F.bindsN fun _ _ _ _ _ _ us hl => match us, hl with | [_], _ => rfl)
  · obtain ⟨t, rfl, _⟩ := h
    rfl
  · obtain ⟨t, rfl, h⟩ := h
    have hr_read_rewrite : Room 11 _ := hr.mono (by decide)
    refine ⟨_, PSs.nox (pss_cons (ps_try_as (i := 1) rfl rfl sc__law_asked.nd rfl rfl ⟨rfl, by decide, .inl T.g_CodeError⟩ takes_none5 (fun W pn xe tk hp => pss_one (ps_expr (Rr.pe_cR F_read_rewrite hr_read_rewrite T.k_read_rewrite T.g_read_rewrite (Rr.passW tk) (pa_cons (pv 0) pa_nil)))) (fun a oe cls d pn hz hf => (pss_cons (ps_if (pt_not (pt_val (pe_callB (L2.call_isED hz hf) rfl T.b_isinstance (by decide +kernel) (pa_cons (pv 1) (pa_cons (pe_glob (v := .ref _) rfl T.x_BadText.gC rfl) pa_nil))))) (pss_one (ps_ret (pe_tup (pa_cons pe_str pa_nil)))) pss_nil) (pss_cons (ps_if (PW.pt (pw_or (pt_not (pt_val (pe_callB (L2.call_isED hz hf) rfl T.b_isinstance (by decide +kernel) (pa_cons (pv 1) (pa_cons (pe_glob (v := .ref _) rfl T.g_BadInput rfl) pa_nil))))) (pw_or1 (pt_val (pe_callB (L2.call_isED hz hf) rfl T.b_isinstance (by decide +kernel) (pa_cons (pv 1) (pa_cons (pe_glob (v := .ref _) rfl T.g_NotRight rfl) pa_nil))))))) (pss_one (ps_ret (pe_tup (pa_cons pe_str pa_nil)))) pss_nil) (pss_one (ps_ret (pe_tup (pa_cons pe_str (pa_cons (pe_xf T.xf_BadText T.nx_BadText_line hz hf (pv 1)) (pa_cons (pe_xf T.xf_BadText T.nx_BadText_word hz hf (pv 1)) pa_nil)))))))))) (pss_one (ps_ret (pe_tup (pa_cons pe_str pa_nil))))), ?_⟩
    obtain ⟨ht, G, k⟩ := h
    show tSeq _ _ _ [some (V.str t), none] H
    have right : ∀ {H3 : Hp} {σ : L2.St} {Dn Db Dc}, Ex H H3 → errOf (readR (rowsOf t)) = none → tRet (tTup (tCons (tC (.str "right")) tNil)) { nx := Dn, rt := Q, bk := Db, ct := Dc } σ H3 := fun {H3 σ Dn Db Dc} e hd => by
      rw [hd] at k
      exact s_retU (eu_tup (ea_cons ev_c ea_nil) (by simp)) fun p H4 _ e4 h4 => k p H4 (e.trans e4) h4
    refine q_seq (s_dropG (call_R (vs := [.str t]) (ea_cons (ev_var rfl) ea_nil) fun H1 e1 => ⟨t, rfl, ht, G, fun ln w hr => ?_, fun hr => ⟨fun C hC d fs H' e' hd => ?_, fun v H2 e2 => ?_⟩⟩))
    · intro H' d e' hdn hd
      refine ⟨true, T.bt_x, fun _ a ha => ?_, fun z => by cases z⟩
      have E := e1.trans e'
      dsimp only [List.set]
      refine q_when (b := false) (et_is (et_not (et_isE (b := true) rfl hd T.bt_c T.bt_1)) rfl) (fun hb => by cases hb) (fun _ H3 e3 => ?_)
      have hd3 := e3 _ _ hd
      refine q_when (b := false) (et_is (et_or (et_not (et_isE (b := true) rfl hd3 T.bt_c T.bt_2)) fun _ => et_isE (b := false) rfl hd3 T.bt_c T.bt_3) rfl) (fun hb => by cases hb) (fun _ H4 e4 => ?_)
      have hd4 := e4 _ _ hd3
      have hq : errOf (readR (rowsOf t)) = some (ln, w) := by rw [hr]; rfl
      rw [hq] at k
      exact s_retU (eu_tup (vs := [_, .int (ln : Nat), .int (w : Nat)]) (ea_cons ev_c (ea_cons (ev_xf (ev_var rfl) hd4 rfl) (ea_cons (ev_xf (ev_var rfl) hd4 rfl) ea_nil))) (by simp)) fun p H5 _ e5 h5 => k p H5 (((E.trans e3).trans e4).trans e5) h5
    · have E : Ex H H' := e1.trans fun a o h => e' a o (fun z => z) h
      obtain ⟨hc, hx, hk⟩ := T.oth C hC
      refine ⟨true, hx, fun _ a ha => ?_, fun z => by cases z⟩
      dsimp only [List.set]
      refine q_when (b := true) (et_is (et_not (et_isE (b := false) rfl hd hc hk)) rfl) (fun _ H3 e3 => ?_) (fun hb => by cases hb)
      exact right (E.trans e3) (by rw [hr]; rfl)
    · exact right (σ := [some (V.str t), none]) (e1.trans e2) (by rw [hr]; rfl)
open PySem PySem.Spec PyProof.Rows L2 Evl Hb TL
def KOk (k k' : Str) : Prop := ∀ z, fits z k' = lfits z k
theorem kok_num : KOk "number" "n" := fun z => by unfold fits lfits; rw [if_pos rfl, if_pos rfl]
theorem kok_word : KOk "word" "w" := fun z => by unfold fits lfits; rw [if_neg (by decide +kernel), if_pos rfl, if_neg (by decide +kernel), if_pos rfl]
theorem kok_key {k k' : Str} (h1 : k ≠ "number") (h2 : k ≠ "word") (h3 : k' ≠ "n") (h4 : k' ≠ "w") (h5 : cutS k' (some 1) none = k) : KOk k k' := fun z => by unfold fits lfits; rw [if_neg h3, if_neg h4, if_neg h1, if_neg h2, h5]
inductive KOks : List Str → List Str → Prop where
  | nil : KOks [] []
  | cons {k k' : Str} {ks ks' : List Str} (h : KOk k k') (t : KOks ks ks') : KOks (k :: ks) (k' :: ks')
theorem lbad_bad : ∀ {ks ks' : List Str}, KOks ks ks' → ∀ (ws : List Str) (i : Nat), lbad ws ks i = bad ws ks' i
  | _, _, .nil, [], _ => rfl
  | _, _, .nil, _ :: _, _ => rfl
  | _, _, .cons h t, [], _ => rfl
  | _, _, .cons (k := k) (k' := k') (ks := ks) (ks' := ks') h t, w :: ws, i => by
    show (if lfits w k then lbad ws ks (i + 1) else some i) = (if fits w k' then bad ws ks' (i + 1) else some i)
    rw [h w, lbad_bad t ws (i + 1)]
theorem kk_stop : KOks ["stop", "number"] ["=stop", "n"] := .cons (kok_key (by decide +kernel) (by decide +kernel) (by decide +kernel) (by decide +kernel) (by decide +kernel)) (.cons kok_num .nil)
theorem kk_layout : KOks ["layout", "number", "number"] ["=layout", "n", "n"] := .cons (kok_key (by decide +kernel) (by decide +kernel) (by decide +kernel) (by decide +kernel) (by decide +kernel)) (.cons kok_num (.cons kok_num .nil))
theorem kk_stretch : KOks ["stretch", "number", "number"] ["=stretch", "n", "n"] := .cons (kok_key (by decide +kernel) (by decide +kernel) (by decide +kernel) (by decide +kernel) (by decide +kernel)) (.cons kok_num (.cons kok_num .nil))
theorem kk_form : KOks ["form", "number", "word", "number", "word"] formK := .cons (kok_key (by decide +kernel) (by decide +kernel) (by decide +kernel) (by decide +kernel) (by decide +kernel)) (.cons kok_num (.cons kok_word (.cons kok_num (.cons kok_word .nil))))
theorem kk_to : KOks ["answer", "number", "to", "number"] ["=answer", "n", "=to", "n"] := .cons (kok_key (by decide +kernel) (by decide +kernel) (by decide +kernel) (by decide +kernel) (by decide +kernel)) (.cons kok_num (.cons (kok_key (by decide +kernel) (by decide +kernel) (by decide +kernel) (by decide +kernel) (by decide +kernel)) (.cons kok_num .nil)))
theorem kk_wait : KOks ["answer", "number", "wait"] ["=answer", "n", "=wait"] := .cons (kok_key (by decide +kernel) (by decide +kernel) (by decide +kernel) (by decide +kernel) (by decide +kernel)) (.cons kok_num (.cons (kok_key (by decide +kernel) (by decide +kernel) (by decide +kernel) (by decide +kernel) (by decide +kernel)) .nil))
def thenE {α : Type} (x : Except (Nat × Nat) α) (f : α → Option (Nat × Nat)) : Option (Nat × Nat) := match x with
  | .error e => some e
  | .ok a => f a
theorem errOf_then {α : Type} {x : Except (Nat × Nat) α} {f : α → Except (Nat × Nat) Unit} : errOf (thenR x f) = thenE x fun a => errOf (f a) := by cases x <;> rfl
def optE {α : Type} (n : Nat) (x : Option Nat) (d : Option α) (f : Nat × Nat → α) : Option α := match x with
  | some j => some (f (n, j))
  | none => d
abbrev fallE (n : Nat) (x : Option Nat) (d : Option (Nat × Nat)) : Option (Nat × Nat) := match x with
  | some j => some (n, j)
  | none => d
theorem begins_iff {rows : List (List Str)} {n : Nat} {w : Str} (h : begins rows n w = true) : ∃ r, rows[n]? = some (w :: r) := by
  unfold begins at h
  split at h
  · rename_i x r q
    exact ⟨r, by rw [q, of_decide_eq_true h]⟩
  · cases h
theorem begins_of {rows : List (List Str)} {n : Nat} {w : Str} {r : List Str} (h : rows[n]? = some (w :: r)) (x : Str) : begins rows n x = decide (w = x) := by
  unfold begins
  rw [h]
theorem begins_none {rows : List (List Str)} {n : Nat} (h : rows[n]? = none) (x : Str) : begins rows n x = false := by
  unfold begins
  rw [h]
theorem takeR_begins {rows : List (List Str)} {n : Nat} {w : Str} {ws : List Str} (h : rows[n]? = some (w :: ws)) : takeR rows n w = .ok (w :: ws) := by
  unfold takeR
  rw [begins_of h, decide_eq_true rfl, if_pos rfl, h]
  rfl
theorem takeR_not {rows : List (List Str)} {n : Nat} {w : Str} (h : begins rows n w = false) : takeR rows n w = .error (n, 0) := by
  unfold takeR
  rw [h]; rfl
section
variable {rows : List (List Str)} (hne : ∀ ws ∈ rows, ws ≠ [])
abbrev Due (rows : List (List Str)) (n : Nat) (key : Option Str) (bf : Option Int) : Option (Nat × Nat) := dueGo (rows.drop n) n key bf
theorem due_line {n : Nat} {key : Option Str} {bf : Option Int} {k : Str} {r : List Str} (h : rows[n]? = some (k :: r)) :
    Due rows n key bf = if k ∈ nextR key then fallE n (wrongK k (k :: r) (bf1 key k bf)) (Due rows (n + 1) (some k) (bf2 k (k :: r) (bf1 key k bf))) else some (n, 0) := by
  obtain ⟨hlt, hx⟩ := List.getElem?_eq_some_iff.mp h
  show dueGo (rows.drop n) n key bf = _
  rw [List.drop_eq_getElem_cons hlt, hx]
  rfl
theorem due_end {n : Nat} {key : Option Str} {bf : Option Int} (h : rows[n]? = none) : Due rows n key bf = if (key.any fun k => decide (k ∈ lastL)) = true then none else some (n, 0) := by
  show dueGo (rows.drop n) n key bf = _
  rw [List.drop_eq_nil_of_le (List.getElem?_eq_none_iff.mp h)]
  rfl
include hne in
theorem row_cases (n : Nat) : rows[n]? = none ∨ ∃ k r, rows[n]? = some (k :: r) := by
  cases h : rows[n]? with
  | none => exact .inl rfl
  | some ws =>
    cases ws with
    | nil => exact absurd rfl (hne _ (List.mem_of_getElem? h))
    | cons k r => exact .inr ⟨k, r, rfl⟩
def May (rows : List (List Str)) (n : Nat) (key : Option Str) (c : List Str) : Prop := ∀ x, begins rows n x = true → (x ∈ nextR key ↔ x ∈ c)
theorem May.of {n : Nat} {key : Option Str} {c : List Str} (h : nextR key = c) : May rows n key c := fun x _ => by rw [h]
theorem May.less {n : Nat} {key : Option Str} {c : List Str} {w : Str} (h : May rows n key (w :: c)) (hb : begins rows n w = false) : May rows n key c := fun x hx => by
  rw [h x hx]
  refine ⟨fun hm => ?_, fun hm => List.mem_cons_of_mem _ hm⟩
  rcases List.mem_cons.mp hm with rfl | hm
  · rw [hx] at hb; cases hb
  · exact hm
include hne in
theorem due_take {n : Nat} {key : Option Str} {bf : Option Int} {w : Str} (hl : (key.any fun k => decide (k ∈ lastL)) = false) (hm : May rows n key [w]) (hw : some w ≠ key) :
    Due rows n key bf = if begins rows n w then fallE n (wrongK w (rows[n]?.getD []) none) (Due rows (n + 1) (some w) (bf2 w (rows[n]?.getD []) none)) else some (n, 0) := by
  rcases row_cases hne n with h | ⟨k, r, h⟩
  · rw [due_end h, begins_none h, hl]; rfl
  · rw [due_line h, begins_of h, h]
    by_cases hk : k = w
    · subst hk
      have hb : bf1 key k bf = none := if_neg hw
      rw [if_pos ((hm k (by rw [begins_of h]; exact decide_eq_true rfl)).mpr (List.mem_singleton_self _)), hb, decide_eq_true rfl, if_pos rfl]
      rfl
    · have : ¬ k ∈ nextR key := fun z => hk (List.mem_singleton.mp ((hm k (by rw [begins_of h]; exact decide_eq_true rfl)).mp z))
      rw [if_neg this, decide_eq_false hk]; rfl
theorem due_may {n : Nat} {key : Option Str} {bf : Option Int} {w : Str} {c : List Str} (hm : May rows n key (w :: c)) (hb : begins rows n w = true) :
    Due rows n key bf = fallE n (wrongK w (rows[n]?.getD []) (bf1 key w bf)) (Due rows (n + 1) (some w) (bf2 w (rows[n]?.getD []) (bf1 key w bf))) := by
  obtain ⟨r, h⟩ := begins_iff hb
  rw [due_line h, h, if_pos ((hm w hb).mpr (List.mem_cons_self ..))]
  rfl
theorem fixed_E {n : Nat} {w : Str} {ks lk : List Str} {f : Option (Nat × Nat)} {bf : Option Int} (hk : KOks lk (("=" ++ w) :: ks)) (hw : ∀ ws, wrongK w ws bf = lbad ws lk 0) :
    thenE (fixedR rows n w ks) (fun _ => f) = if begins rows n w then fallE n (wrongK w (rows[n]?.getD []) bf) f else some (n, 0) := by
  cases hb : begins rows n w with
  | false => unfold fixedR; rw [takeR_not hb]; rfl
  | true =>
    obtain ⟨r, h⟩ := begins_iff hb
    unfold fixedR
    rw [takeR_begins h, h, if_pos rfl, hw, lbad_bad hk]
    show thenE (match bad (w :: r) (("=" ++ w) :: ks) 0 with | some j => .error (n, j) | none => .ok (w :: r)) _ = fallE n (bad (w :: r) (("=" ++ w) :: ks) 0) f
    cases bad (w :: r) (("=" ++ w) :: ks) 0 <;> rfl
theorem numbers_E {n : Nat} {w : Str} {least : Int} {asc : Bool} {f : Option (Nat × Nat)} {bf : Option Int} (hw : ∀ ws, wrongK w ws bf = numsErr ws least asc) :
    thenE (numbersR rows n w least asc) (fun _ => f) = if begins rows n w then fallE n (wrongK w (rows[n]?.getD []) bf) f else some (n, 0) := by
  cases hb : begins rows n w with
  | false => unfold numbersR; rw [takeR_not hb]; rfl
  | true =>
    obtain ⟨r, h⟩ := begins_iff hb
    unfold numbersR
    rw [takeR_begins h, h, if_pos rfl, hw]
    show thenE (match numsAll (w :: r) least asc with | .error j => .error (n, j) | .ok f => .ok f) _ = fallE n (numsErr (w :: r) least asc) f
    unfold numsErr
    cases numsAll (w :: r) least asc <;> rfl
theorem wk_stop {bf : Option Int} (ws : List Str) : wrongK "stop" ws bf = lbad ws ["stop", "number"] 0 := if_pos rfl
theorem wk_form {bf : Option Int} (ws : List Str) : wrongK "form" ws bf = lnumbered ws ["form", "number", "word", "number", "word"] bf := by unfold wrongK; rw [if_neg (by decide +kernel), if_pos rfl]
theorem wk_layout {bf : Option Int} (ws : List Str) : wrongK "layout" ws bf = lbad ws ["layout", "number", "number"] 0 := by unfold wrongK; rw [if_neg (by decide +kernel), if_neg (by decide +kernel), if_pos (by decide +kernel)]
theorem wk_stretch {bf : Option Int} (ws : List Str) : wrongK "stretch" ws bf = lbad ws ["stretch", "number", "number"] 0 := by unfold wrongK; rw [if_neg (by decide +kernel), if_neg (by decide +kernel), if_pos (by decide +kernel)]
theorem wk_old {bf : Option Int} (ws : List Str) : wrongK "old" ws bf = numsErr ws 1 false := by unfold wrongK; rw [if_neg (by decide +kernel), if_neg (by decide +kernel), if_neg (by decide +kernel), if_pos (by decide +kernel)]
theorem wk_new {bf : Option Int} (ws : List Str) : wrongK "new" ws bf = numsErr ws 1 false := by unfold wrongK; rw [if_neg (by decide +kernel), if_neg (by decide +kernel), if_neg (by decide +kernel), if_pos (by decide +kernel)]
theorem wk_entries {bf : Option Int} (ws : List Str) : wrongK "entries" ws bf = numsErr ws 1 true := by unfold wrongK; rw [if_neg (by decide +kernel), if_neg (by decide +kernel), if_neg (by decide +kernel), if_neg (by decide +kernel), if_pos (by decide +kernel)]
theorem wk_standing {bf : Option Int} (ws : List Str) : wrongK "standing" ws bf = numsErr ws 1 true := by unfold wrongK; rw [if_neg (by decide +kernel), if_neg (by decide +kernel), if_neg (by decide +kernel), if_neg (by decide +kernel), if_pos (by decide +kernel)]
theorem wk_crossings {bf : Option Int} (ws : List Str) : wrongK "crossings" ws bf = numsErr ws 0 true := by unfold wrongK; rw [if_neg (by decide +kernel), if_neg (by decide +kernel), if_neg (by decide +kernel), if_neg (by decide +kernel), if_neg (by decide +kernel), if_pos rfl]
theorem wk_answer {bf : Option Int} (ws : List Str) : wrongK "answer" ws bf = if ws[2]? = some ("to" : Str) then lnumbered ws ["answer", "number", "to", "number"] bf else lnumbered ws ["answer", "number", "wait"] bf := by
  unfold wrongK
  rw [if_neg (by decide +kernel), if_neg (by decide +kernel), if_neg (by decide +kernel), if_neg (by decide +kernel), if_neg (by decide +kernel), if_neg (by decide +kernel)]
theorem head_E {n : Nat} {kw key : Str} {f : List Int} {rest rest' : List Str} {ws : List Str} {g : Option (Nat × Nat)} (h : rows[n]? = some (kw :: ws)) (hkey : fits kw key = true) (hk : KOks (kw :: "number" :: rest) (key :: "n" :: rest')) :
    (thenE (headR rows n kw key f) fun x => fallE n (bad x (key :: "n" :: rest') 0) g) = fallE n (lnumbered (kw :: ws) (kw :: "number" :: rest) f.getLast?) g := by
  have hl : ∀ ws i, lbad ws (kw :: "number" :: rest) i = bad ws (key :: "n" :: rest') i := lbad_bad hk
  unfold headR
  rw [takeR_begins h]
  cases ws with
  | nil =>
    have e1 : bad (([kw] : List Str).take 2) [key, "n"] 0 = some 1 := by
      show (if fits kw key then bad [] ["n"] 1 else some 0) = some 1
      rw [hkey]; rfl
    have e2 : lnumbered [kw] (kw :: "number" :: rest) f.getLast? = some 1 := by
      have : lnumbered [kw] (kw :: "number" :: rest) f.getLast? = lbad [kw] (kw :: "number" :: rest) 0 := by
        unfold lnumbered
        cases f.getLast? <;> rfl
      rw [this, hl]
      show (if fits kw key then bad [] ("n" :: rest') 1 else some 0) = some 1
      rw [hkey]; rfl
    show thenE (match bad (([kw] : List Str).take 2) [key, "n"] 0 with | some j => .error (n, j) | none => if lastGe f (numOf (([kw] : List Str)[1]?.getD "")) then .error (n, 1) else .ok [kw]) _ = _
    rw [e1, e2]; rfl
  | cons b r =>
    have e1 : bad ((kw :: b :: r).take 2) [key, "n"] 0 = if isNum b then none else some 1 := by
      show (if fits kw key then (if fits b "n" then bad [] [] 2 else some 1) else some 0) = _
      rw [hkey, fits_n]; rfl
    show thenE (match bad ((kw :: b :: r).take 2) [key, "n"] 0 with | some j => .error (n, j) | none => if lastGe f (numOf b) then .error (n, 1) else .ok (kw :: b :: r)) _ = _
    rw [e1]
    have e3 : lbad (kw :: b :: r) (kw :: "number" :: rest) 0 = bad (kw :: b :: r) (key :: "n" :: rest') 0 := hl _ _
    cases hn : isNum b with
    | false =>
      have e2 : bad (kw :: b :: r) (key :: "n" :: rest') 0 = some 1 := by
        show (if fits kw key then (if fits b "n" then bad r rest' 2 else some 1) else some 0) = _
        rw [hkey, fits_n, hn]; rfl
      have e4 : lnumbered (kw :: b :: r) (kw :: "number" :: rest) f.getLast? = some 1 := by
        unfold lnumbered
        cases f.getLast? with
        | none => exact e3.trans e2
        | some x =>
          show (if isNum b && decide (numOf b ≤ x) then some 1 else lbad (kw :: b :: r) (kw :: "number" :: rest) 0) = some 1
          rw [hn, Bool.false_and, e3, e2]; rfl
      rw [e4]; rfl
    | true =>
      show thenE (if lastGe f (numOf b) then .error (n, 1) else .ok (kw :: b :: r)) _ = _
      have e4 : lnumbered (kw :: b :: r) (kw :: "number" :: rest) f.getLast? = if lastGe f (numOf b) then some 1 else bad (kw :: b :: r) (key :: "n" :: rest') 0 := by
        unfold lnumbered lastGe
        cases f.getLast? with
        | none => exact e3
        | some x =>
          show (if isNum b && decide (numOf b ≤ x) then some 1 else lbad (kw :: b :: r) (kw :: "number" :: rest) 0) = _
          rw [hn, Bool.true_and, e3]
      rw [e4]
      cases lastGe f (numOf b) <;> rfl
theorem lastL_iff {key : Option Str} {k : Str} (h : key = some k) (hk : k ∈ lastL) : (key.any fun k => decide (k ∈ lastL)) = true := by
  subst h
  exact decide_eq_true hk
include hne in
theorem tail5 : ∀ (m n : Nat) (key : Option Str) (bf : Option Int), n ≤ rows.length → m + n ≥ rows.length + 1 → (key.any fun k => decide (k ∈ lastL)) = true → May rows n key ["stretch"] → (thenE (strR rows m n) fun q => errOf (endR rows q.1)) = Due rows n key bf
  | 0, n, key, bf, h1, h2, _, _ => by omega
  | m + 1, n, key, bf, h1, h2, hk, hm => by
    cases hb : begins rows n "stretch" with
    | true =>
      have hlt := begins_lt hb
      have ih := tail5 m (n + 1) (some "stretch") (bf2 "stretch" (rows[n]?.getD []) (bf1 key "stretch" bf)) (by omega) (by omega) (by decide +kernel) (.of (by decide +kernel))
      rw [due_may hm hb, ← ih]
      have h := fixed_E (rows := rows) (n := n) (w := "stretch") (ks := ["n", "n"]) (lk := ["stretch", "number", "number"]) (bf := bf1 key "stretch" bf) (f := thenE (strR rows m (n + 1)) fun q => errOf (endR rows q.1)) kk_stretch wk_stretch
      rw [hb, if_pos rfl] at h
      rw [← h]
      show thenE (if begins rows n "stretch" then _ else _) _ = _
      rw [hb]
      show thenE (match fixedR rows n "stretch" ["n", "n"] with | .error e => .error e | .ok _ => strR rows m (n + 1)) _ = _
      cases fixedR rows n "stretch" ["n", "n"] <;> rfl
    | false =>
      have hs : strR rows (m + 1) n = .ok (n, ()) := by
        show (if begins rows n "stretch" then _ else _) = _
        rw [hb]; rfl
      rw [hs]
      show errOf (endR rows n) = _
      unfold endR
      rcases row_cases hne n with h | ⟨k, r, h⟩
      · rw [due_end h, hk, if_neg (by have := List.getElem?_eq_none_iff.mp h; omega), if_pos rfl]; rfl
      · have hb' := hb
        rw [begins_of h] at hb'
        have : ¬ k ∈ nextR key := fun z => by
          have := (hm k (by rw [begins_of h]; exact decide_eq_true rfl)).mp z
          rw [List.mem_singleton.mp this] at hb'
          simp at hb'
        rw [due_line h, if_neg this, if_pos (List.getElem?_eq_some_iff.mp h).1]; rfl
theorem ans_to {ws : List Str} : ((ws.drop 2).take 1 = [("to" : Str)]) ↔ ws[2]? = some ("to" : Str) := by
  match ws with
  | [] => simp
  | [a] => simp
  | [a, b] => simp
  | a :: b :: c :: r => simp
include hne in
theorem tail4 : ∀ (m n : Nat) (key : Option Str) (bf : Option Int) (pl : List Int), n ≤ rows.length → m + n ≥ rows.length + 1 → (key.any fun k => decide (k ∈ lastL)) = true → May rows n key ["answer", "stretch"] → bf1 key "answer" bf = pl.getLast? → (thenE (ansR rows m n pl) fun p => errOf (tailR5 rows p.1)) = Due rows n key bf
  | 0, n, key, bf, pl, h1, h2, _, _, _ => by omega
  | m + 1, n, key, bf, pl, h1, h2, hk, hm, hbf => by
    cases hb : begins rows n "answer" with
    | true =>
      have hlt := begins_lt hb
      obtain ⟨r, h⟩ := begins_iff hb
      have hr : rows[n]?.getD [] = ("answer" : Str) :: r := by rw [h]; rfl
      have h2' : ∀ (ws : List Str) (b : Option Int), bf2 "answer" ws b = some (numOf (ws[1]?.getD "")) := fun ws b => if_pos (by decide +kernel)
      have ih := tail4 m (n + 1) (some "answer") (bf2 "answer" (rows[n]?.getD []) (bf1 key "answer" bf)) (pl ++ [numOf ((rows[n]?.getD [])[1]?.getD "")]) (by omega) (by omega) (by decide +kernel) (.of (by decide +kernel)) (by
        rw [List.getLast?_concat, h2']
        exact if_pos rfl)
      rw [due_may hm hb, ← ih, hbf, hr]
      show thenE (if begins rows n "answer" then _ else _) _ = _
      rw [hb]
      show thenE (match headR rows n "answer" "=answer" pl with
        | .error e => .error e
        | .ok ws => match bad ws (ansK ws) 0 with
          | some j => .error (n, j)
          | none => ansR rows m (n + 1) (pl ++ [numOf (ws[1]?.getD "")])) _ = _
      have hh : ∀ ws, headR rows n "answer" "=answer" pl = .ok ws → ws = ("answer" : Str) :: r := fun ws hq => by
        unfold headR at hq
        rw [takeR_begins h] at hq
        replace hq : (match bad ((("answer" : Str) :: r).take 2) ["=answer", "n"] 0 with | some j => Except.error (n, j) | none => if lastGe pl (numOf ((("answer" : Str) :: r)[1]?.getD "")) then .error (n, 1) else .ok (("answer" : Str) :: r)) = .ok ws := hq
        split at hq
        · cases hq
        · split at hq
          · cases hq
          · cases hq; rfl
      generalize hg : thenE (ansR rows m (n + 1) (pl ++ [numOf ((("answer" : Str) :: r)[1]?.getD "")])) (fun p => errOf (tailR5 rows p.1)) = g
      have key_ : (thenE (headR rows n "answer" "=answer" pl) fun x => fallE n (bad x (ansK x) 0) g) = fallE n (wrongK "answer" (("answer" : Str) :: r) pl.getLast?) g := by
        have swap : (thenE (headR rows n "answer" "=answer" pl) fun x => fallE n (bad x (ansK x) 0) g) = thenE (headR rows n "answer" "=answer" pl) fun x => fallE n (bad x (ansK (("answer" : Str) :: r)) 0) g := by
          cases hq : headR rows n "answer" "=answer" pl with
          | error e => rfl
          | ok ws => rw [hh ws hq]; rfl
        rw [swap, wk_answer]
        by_cases ht : (("answer" : Str) :: r)[2]? = some ("to" : Str)
        · have ha : ansK (("answer" : Str) :: r) = (["=answer", "n", "=to", "n"] : List Str) := if_pos (ans_to.mpr ht)
          rw [if_pos ht, ha]
          exact head_E h (by decide +kernel) kk_to
        · have ha : ansK (("answer" : Str) :: r) = (["=answer", "n", "=wait"] : List Str) := if_neg fun z => ht (ans_to.mp z)
          rw [if_neg ht, ha]
          exact head_E h (by decide +kernel) kk_wait
      rw [← key_]
      cases hq : headR rows n "answer" "=answer" pl with
      | error e => rfl
      | ok ws =>
        have := hh ws hq
        subst this
        show thenE (match bad (("answer" : Str) :: r) (ansK (("answer" : Str) :: r)) 0 with
          | some j => .error (n, j)
          | none => ansR rows m (n + 1) (pl ++ [numOf ((("answer" : Str) :: r)[1]?.getD "")])) _ = fallE n (bad (("answer" : Str) :: r) (ansK (("answer" : Str) :: r)) 0) g
        cases bad (("answer" : Str) :: r) (ansK (("answer" : Str) :: r)) 0 with
        | some j => rfl
        | none => exact hg
    | false =>
      have hs : ansR rows (m + 1) n pl = .ok (n, ()) := by
        show (if begins rows n "answer" then _ else _) = _
        rw [hb]; rfl
      rw [hs]
      show errOf (tailR5 rows n) = _
      unfold tailR5
      rw [errOf_then]
      exact tail5 hne (rows.length + 1) n key bf h1 (by omega) hk (hm.less hb)
include hne in
theorem tail4' {n : Nat} {key : Option Str} {bf : Option Int} (h1 : n ≤ rows.length) (hk : (key.any fun k => decide (k ∈ lastL)) = true) (hm : May rows n key ["answer", "stretch"]) (hbf : bf1 key "answer" bf = none) : errOf (tailR4 rows n) = Due rows n key bf := by
  unfold tailR4
  rw [errOf_then]
  exact tail4 hne (rows.length + 1) n key bf [] h1 (by omega) hk hm hbf
include hne in
theorem tail3 {n : Nat} {key : Option Str} {bf : Option Int} (h1 : n ≤ rows.length) (hk : (key.any fun k => decide (k ∈ lastL)) = true) (hm : May rows n key ["crossings", "answer", "stretch"]) (hbf : bf1 key "answer" bf = none) (hbc : bf1 key "crossings" bf = none) : errOf (tailR3 rows n) = Due rows n key bf := by
  unfold tailR3
  cases hb : begins rows n "crossings" with
  | false => exact tail4' hne h1 hk (hm.less hb) hbf
  | true =>
    have hlt := begins_lt hb
    rw [if_pos rfl, errOf_then, tail4' hne (n := n + 1) (key := some "crossings") (bf := none) (by omega) (by decide +kernel) (.of (by decide +kernel)) (by decide +kernel), numbers_E (bf := bf1 key "crossings" bf) wk_crossings, hb, if_pos rfl, due_may hm hb, hbc]
    rfl
include hne in
theorem tail2 {n : Nat} (h1 : n ≤ rows.length) : errOf (tailR2 rows n) = Due rows n (some "entries") none := by
  have hm : May rows n (some "entries") ["standing", "crossings", "answer", "stretch"] := .of (by decide +kernel)
  unfold tailR2
  cases hb : begins rows n "standing" with
  | false => exact tail3 hne h1 (by decide +kernel) (hm.less hb) (by decide +kernel) (by decide +kernel)
  | true =>
    have hlt := begins_lt hb
    rw [if_pos rfl, errOf_then, tail3 hne (n := n + 1) (key := some "standing") (bf := none) (by omega) (by decide +kernel) (.of (by decide +kernel)) (by decide +kernel) (by decide +kernel), numbers_E (bf := none) wk_standing, hb, if_pos rfl, due_may hm hb]
    rfl
theorem ifb {b : Bool} {α : Type} {x y z : α} (h : b = true → x = y) : (if b then x else z) = if b then y else z := by
  cases b with
  | true => exact h rfl
  | false => rfl
include hne in
theorem read5 {n : Nat} : errOf (readR5 rows n) = Due rows n (some "new") none := by
  unfold readR5
  rw [errOf_then, numbers_E (bf := none) wk_entries, due_take hne (w := "entries") (by decide +kernel) (.of (by decide +kernel)) (by decide +kernel)]
  exact ifb fun hb => by rw [tail2 hne (begins_lt hb)]; rfl
include hne in
theorem read4 {n : Nat} : errOf (readR4 rows n) = Due rows n (some "old") none := by
  unfold readR4
  rw [errOf_then, numbers_E (bf := none) wk_new, due_take hne (w := "new") (by decide +kernel) (.of (by decide +kernel)) (by decide +kernel)]
  exact ifb fun hb => by rw [read5 hne]; rfl
include hne in
theorem read3 {n : Nat} : errOf (readR3 rows n) = Due rows n (some "layout") none := by
  unfold readR3
  rw [errOf_then, numbers_E (bf := none) wk_old, due_take hne (w := "old") (by decide +kernel) (.of (by decide +kernel)) (by decide +kernel)]
  exact ifb fun hb => by rw [read4 hne]; rfl
include hne in
theorem read2 {n : Nat} {bf : Option Int} (hb : begins rows n "form" = false) : errOf (readR2 rows n) = Due rows n (some "form") bf := by
  have hm : May rows n (some "form") ["form", "layout"] := .of (by decide +kernel)
  unfold readR2
  rw [errOf_then, fixed_E (bf := none) kk_layout wk_layout, due_take hne (w := "layout") (by decide +kernel) (hm.less hb) (by decide +kernel)]
  exact ifb fun hb => by rw [read3 hne]; rfl
include hne in
theorem forms_E : ∀ (m n : Nat) (key : Option Str) (bf0 : Option Int) (bf : List Int), n ≤ rows.length → m + n ≥ rows.length + 1 → (bf = [] ∧ key = some ("stop" : Str) ∨ bf ≠ [] ∧ key = some ("form" : Str) ∧ bf0 = bf.getLast?) → (thenE (formsR rows m n bf) fun p => errOf (readR2 rows p.1)) = Due rows n key bf0
  | 0, n, key, bf0, bf, h1, h2, _ => by omega
  | m + 1, n, key, bf0, bf, h1, h2, hc => by
    have hbf : bf1 key "form" bf0 = bf.getLast? := by
      rcases hc with ⟨rfl, rfl⟩ | ⟨_, rfl, rfl⟩
      · exact if_neg (by decide +kernel)
      · exact if_pos rfl
    have hin : ("form" : Str) ∈ nextR key := by
      rcases hc with ⟨_, rfl⟩ | ⟨_, rfl, _⟩ <;> decide +kernel
    have hlast : (key.any fun k => decide (k ∈ lastL)) = false := by
      rcases hc with ⟨_, rfl⟩ | ⟨_, rfl, _⟩ <;> decide +kernel
    cases hb : begins rows n "form" with
    | true =>
      have hlt := begins_lt hb
      obtain ⟨r, h⟩ := begins_iff hb
      have h2' : ∀ (ws : List Str) (b : Option Int), bf2 "form" ws b = some (numOf (ws[1]?.getD "")) := fun ws b => if_pos (by decide +kernel)
      have ih := forms_E m (n + 1) (some "form") (bf2 "form" (("form" : Str) :: r) (bf1 key "form" bf0)) (bf ++ [numOf ((("form" : Str) :: r)[1]?.getD "")]) (by omega) (by omega) (.inr ⟨by simp, rfl, by rw [List.getLast?_concat, h2']⟩)
      rw [due_line h, if_pos hin, ← ih, hbf]
      show thenE (if (bf.isEmpty || begins rows n "form") then _ else _) _ = _
      rw [hb, Bool.or_true]
      show thenE (match headR rows n "form" "=form" bf with
        | .error e => .error e
        | .ok ws => match bad ws formK 0 with
          | some j => .error (n, j)
          | none => formsR rows m (n + 1) (bf ++ [numOf (ws[1]?.getD "")])) _ = _
      have hh : ∀ ws, headR rows n "form" "=form" bf = .ok ws → ws = ("form" : Str) :: r := fun ws hq => by
        unfold headR at hq
        rw [takeR_begins h] at hq
        replace hq : (match bad ((("form" : Str) :: r).take 2) ["=form", "n"] 0 with | some j => Except.error (n, j) | none => if lastGe bf (numOf ((("form" : Str) :: r)[1]?.getD "")) then .error (n, 1) else .ok (("form" : Str) :: r)) = .ok ws := hq
        split at hq
        · cases hq
        · split at hq
          · cases hq
          · cases hq; rfl
      generalize hg : thenE (formsR rows m (n + 1) (bf ++ [numOf ((("form" : Str) :: r)[1]?.getD "")])) (fun p => errOf (readR2 rows p.1)) = g
      rw [wk_form, ← head_E (g := g) h (by decide +kernel) kk_form]
      cases hq : headR rows n "form" "=form" bf with
      | error e => rfl
      | ok ws =>
        have := hh ws hq
        subst this
        show thenE (match bad (("form" : Str) :: r) formK 0 with
          | some j => .error (n, j)
          | none => formsR rows m (n + 1) (bf ++ [numOf ((("form" : Str) :: r)[1]?.getD "")])) _ = fallE n (bad (("form" : Str) :: r) formK 0) g
        cases bad (("form" : Str) :: r) formK 0 with
        | some j => rfl
        | none => exact hg
    | false =>
      rcases hc with ⟨rfl, rfl⟩ | ⟨hne2, rfl, rfl⟩
      · have hs : formsR rows (m + 1) n [] = .error (n, 0) := by
          show (match headR rows n "form" "=form" [] with
            | .error e => Except.error e
            | .ok ws => match bad ws formK 0 with
              | some j => .error (n, j)
              | none => formsR rows m (n + 1) ([] ++ [numOf (ws[1]?.getD "")])) = _
          have : headR rows n "form" "=form" [] = .error (n, 0) := by unfold headR; rw [takeR_not hb]
          rw [this]
        rw [hs, due_take hne (w := "form") hlast (.of (by decide +kernel)) (by decide +kernel), hb]
        rfl
      · have hs : formsR rows (m + 1) n bf = .ok (n, bf) := by
          show (if (bf.isEmpty || begins rows n "form") then _ else _) = _
          rw [hb, Bool.or_false]
          cases bf with
          | nil => exact absurd rfl hne2
          | cons x bf => rfl
        rw [hs]
        exact read2 hne hb
include hne in
theorem due_read : errOf (readR rows) = dueR rows := by
  unfold readR
  rw [errOf_then, fixed_E (bf := none) kk_stop wk_stop]
  have e0 : dueR rows = Due rows 0 none none := rfl
  rw [e0, due_take hne (w := "stop") (by decide +kernel) (.of (by decide +kernel)) (by decide +kernel)]
  refine ifb fun hb => ?_
  have e1 : errOf (readR1 rows) = Due rows 1 (some "stop") none := by
    unfold readR1
    rw [errOf_then]
    exact forms_E hne (rows.length + 1) 1 (some "stop") none [] (begins_lt hb) (by omega) (.inl ⟨rfl, rfl⟩)
  rw [e1]; rfl
end
open PySem PySem.Spec PyProof.Rows L2 Evl Hb TL
theorem joinL_len (S : List Nat) : ∀ (ps : List (List Nat)), (joinL S ps).length ≤ (ps.map (·.length)).sum + ps.length * S.length
  | [] => by simp [joinL]
  | [p] => by simp [joinL]
  | p :: q :: r => by
    have ih := joinL_len S (q :: r)
    show (p ++ (S ++ joinL S (q :: r))).length ≤ _
    rw [List.length_append, List.length_append, List.map_cons, List.sum_cons, List.length_cons]
    have : ((q :: r).length + 1) * S.length = (q :: r).length * S.length + S.length := Nat.succ_mul _ _
    omega
theorem joinL_mem (S : List Nat) : ∀ (ps : List (List Nat)) (c : Nat), c ∈ joinL S ps → c ∈ S ∨ ∃ p ∈ ps, c ∈ p
  | [], c, h => by cases h
  | [p], c, h => .inr ⟨p, List.mem_singleton_self _, h⟩
  | p :: q :: r, c, h => by
    have h : c ∈ p ++ (S ++ joinL S (q :: r)) := h
    rcases List.mem_append.mp h with h | h
    · exact .inr ⟨p, List.mem_cons_self .., h⟩
    · rcases List.mem_append.mp h with h | h
      · exact .inl h
      · rcases joinL_mem S (q :: r) c h with h | ⟨x, hx, h⟩
        · exact .inl h
        · exact .inr ⟨x, List.mem_cons_of_mem _ hx, h⟩
theorem join_len (y : Str) (ps : List Str) : (Txt.join y ps).length ≤ (ps.map (·.length)).sum + ps.length * y.length := by
  have h := joinL_len (tl y) (ps.map tl)
  rw [join_eq, len_tl, tl_join, len_tl y]
  rw [List.map_map, List.length_map] at h
  have e : (ps.map ((fun x : List Nat => x.length) ∘ tl)) = ps.map (·.length) := List.map_congr_left fun x _ => (len_tl x).symm
  rw [e] at h
  exact h
theorem join_mem {y : Str} {ps : List Str} {c : Nat} (h : c ∈ tl (Txt.join y ps)) : c ∈ tl y ∨ ∃ p ∈ ps, c ∈ tl p := by
  rw [join_eq, tl_join] at h
  rcases joinL_mem _ _ _ h with h | ⟨p, hp, h⟩
  · exact .inl h
  · obtain ⟨x, hx, rfl⟩ := List.mem_map.mp hp
    exact .inr ⟨x, hx, h⟩
theorem sum_le {c : Nat} : ∀ {xs : List Str}, (∀ x ∈ xs, x.length ≤ c) → (xs.map (·.length)).sum ≤ xs.length * c
  | [], _ => by simp
  | x :: xs, h => by
    have h1 := h x (List.mem_cons_self ..)
    have h2 := sum_le (xs := xs) fun y hy => h y (List.mem_cons_of_mem _ hy)
    rw [List.map_cons, List.sum_cons, List.length_cons, Nat.succ_mul]
    omega
theorem wok_len {w : Str} (h : WOk w = true) : w.length ≤ 400 := by
  unfold WOk at h
  rw [Bool.and_eq_true, decide_eq_true_iff] at h
  exact h.1
theorem wok_cp {w : Str} (h : WOk w = true) : ∀ c ∈ tl w, c ≠ 32 ∧ c ≠ 10 ∧ c < 128 := fun c hc => by
  unfold WOk at h
  rw [Bool.and_eq_true] at h
  have h2 := List.all_eq_true.mp h.2 c hc
  simp only [Bool.and_eq_true, decide_eq_true_iff] at h2
  exact ⟨h2.1.1, h2.1.2, h2.2⟩
def lineOf (ws : List Str) : Str := Txt.join " " ws
def textOf (rows : List (List Str)) : Str := Txt.join "\n" (rows.map lineOf)
theorem tl_sp : tl (" " : Str) = [32] := by decide +kernel
theorem tl_nl : tl ("\n" : Str) = [10] := by decide +kernel
section
variable {lo n m : Nat} {rows : List (List Str)} (O : LOk lo n m rows) (hn : n ≤ 20) (hm : m ≤ 20)
include O hm in
theorem line_len {ws : List Str} (h : ws ∈ rows) : (lineOf ws).length ≤ 8020 := by
  have h1 := join_len " " ws
  have h2 := sum_le (xs := ws) (c := 400) fun w hw => wok_len (O.wok ws h w hw)
  have h3 := O.wid ws h
  have h4 : (" " : Str).length = 1 := by decide +kernel
  rw [h4] at h1
  show (Txt.join " " ws).length ≤ 8020
  omega
include O in
theorem line_cp {ws : List Str} (h : ws ∈ rows) : ∀ c ∈ tl (lineOf ws), c ≠ 10 ∧ c < 128 := fun c hc => by
  rcases join_mem hc with hc | ⟨w, hw, hc⟩
  · rw [tl_sp] at hc
    rw [List.mem_singleton.mp hc]; decide
  · exact (wok_cp (O.wok ws h w hw) c hc).2
end
open PySem PySem.Spec PyProof.Rows L2 Evl Hb TL
section
variable {lo n m : Nat} {rows : List (List Str)} (O : LOk lo n m rows) (hn : n ≤ 17) (hm : m ≤ 11) (h1 : 1 ≤ lo)
include O hn hm in
theorem text_len : (textOf rows).length ≤ 90000 := by
  have h1 := join_len "\n" (rows.map lineOf)
  have h2 := sum_le (xs := rows.map lineOf) (c := 4411) fun x hx => by
    obtain ⟨ws, hws, rfl⟩ := List.mem_map.mp hx
    have h1 := join_len " " ws
    have h2 := sum_le (xs := ws) (c := 400) fun w hw => wok_len (O.wok ws hws w hw)
    have h3 := O.wid ws hws
    have h4 : (" " : Str).length = 1 := by decide +kernel
    rw [h4] at h1
    show (Txt.join " " ws).length ≤ 4411
    omega
  have h3 := O.len
  have h4 : ("\n" : Str).length = 1 := by decide +kernel
  rw [h4] at h1
  rw [List.length_map] at h1 h2
  show (Txt.join "\n" (rows.map lineOf)).length ≤ 90000
  omega
include O h1 in
theorem rows_text : rowsOf (textOf rows) = rows.map fun ws => Txt.split (lineOf ws) " " := by
  have hne : rows.map lineOf ≠ [] := fun z => by
    have := O.ge
    have : rows.length = 0 := by rw [List.map_eq_nil_iff.mp z]; rfl
    omega
  show (Txt.split (Txt.join "\n" (rows.map lineOf)) "\n").map (fun l => Txt.split l " ") = _
  rw [split_join (s := 10) (S := []) tl_nl (by decide +kernel) hne fun p hp => ?_, List.map_map]
  · rfl
  · obtain ⟨ws, hws, rfl⟩ := List.mem_map.mp hp
    exact fun z => (line_cp O hws 10 z).1 rfl
include O hn hm h1 in
theorem text_good : Good (rowsOf (textOf rows)) := by
  refine rowsOf_good (text_len O hn hm) (fun c hc => ?_) fun ws hws => ?_
  · rcases join_mem hc with hc | ⟨l, hl, hc⟩
    · rw [tl_nl] at hc
      rw [List.mem_singleton.mp hc]; decide
    · obtain ⟨ws, hws, rfl⟩ := List.mem_map.mp hl
      have := (line_cp O hws c hc).2
      omega
  · rw [rows_text O h1] at hws
    obtain ⟨us, hus, rfl⟩ := List.mem_map.mp hws
    have hw := O.wid us hus
    show (Txt.split (Txt.join " " us) " ").length ≤ 30
    cases us with
    | nil => decide +kernel
    | cons u us =>
      rw [split_join (s := 32) (S := []) tl_sp (by decide +kernel) (by simp) fun p hp z => (wok_cp (O.wok _ hus p hp) 32 z).1 rfl]
      omega
end
section
variable {K : PySem.W.Frag} {σ : L2.St} {H : Hp} {te tx ta tb : TE}
abbrev rJoin (K : PySem.W.Frag) : V → List V → Hp → VK → Prop := fun x xs H Q => ∃ a p, ∃ ys : List Str, x = .str a ∧ xs = [.ref p] ∧ (SqL K H p (ys.map V.str) ∨ SqT K H p (ys.map V.str)) ∧ (ys.map (·.length)).sum + ys.length * a.length ≤ 16777216 ∧ Q (.str (Txt.join a ys)) H
theorem ev_join {a : Str} {ys : List Str} (h : Ev te σ H (.str a)) (hl : EvL tx σ H (ys.map V.str)) (hz : (ys.map (·.length)).sum + ys.length * a.length ≤ 16777216) : Ev (tM1 (rJoin K) te tx) σ H (.str (Txt.join a ys)) := fun H1 e Q q =>
  h H1 e _ fun H2 e2 => ⟨⟨a, rfl⟩, hl H2 (e.trans e2) _ fun p H3 _ e3 h3 => ⟨a, p, ys, rfl, rfl, .inl (sq_of h3), hz, q H3 (e2.trans e3)⟩⟩
theorem ev_joinV {a : Str} {p : Addr} {ys : List Str} (h : Ev te σ H (.str a)) (hl : Ev tx σ H (.ref p)) (hp : SqL K H p (ys.map V.str)) (hz : (ys.map (·.length)).sum + ys.length * a.length ≤ 16777216) : Ev (tM1 (rJoin K) te tx) σ H (.str (Txt.join a ys)) := fun H1 e Q q =>
  h H1 e _ fun H2 e2 => ⟨⟨a, rfl⟩, hl H2 (e.trans e2) _ fun H3 e3 => ⟨a, p, ys, rfl, rfl, .inl (ex_l ((e.trans e2).trans e3) hp), hz, q H3 (e2.trans e3)⟩⟩
theorem call_1R {sp : Sp} {E : L2.St → XK} {Q : VK} (h : te σ H fun x H1 => sp [x] H1 Q (E σ)) : Rr.tR sp E (tCons te tNil) σ H Q := h
theorem ev_same {E1 E2 : L2.St → XK} {t : Str} (h1 : Ev ta σ H (.str t)) (ht : t.length ≤ 90000) (G : Good (rowsOf t)) (h2 : ∀ H1, Ex H H1 → ∀ Q : VK, (∀ q H2, Ex H1 H2 → H2 q = some (.tup (dueT (dueR (rowsOf t)))) → Q (.ref q) H2) → tb σ H1 Q) :
    Ev (Rr.tR sp_same E2 (tCons (Rr.tR sp_asked E1 (tCons ta tNil)) (tCons tb tNil))) σ H (.bl true) := fun H1 e Q q => by
  show Rr.tR sp_asked E1 (tCons ta tNil) σ H1 (fun x H2 => tb σ H2 fun y H3 => sp_same [x, y] H3 Q (E2 σ))
  refine call_R (vs := [.str t]) ((ea_cons h1 ea_nil).mono e) fun H2 e2 => ⟨t, rfl, ht, G, fun p H3 e3 h3 => ?_⟩
  exact h2 H3 ((e.trans e2).trans e3) _ fun r H4 e4 h4 => ⟨p, r, dueT (dueR (rowsOf t)), rfl, by rw [← due_read G.ne]; exact e4 _ _ h3, h4, dueT_flt, dueT_len, fun H5 e5 => q H5 (((e2.trans e3).trans e4).trans e5)⟩
end
theorem good_small {t : Str} (h : t = "" ∨ t = "none") : t.length ≤ 90000 ∧ Good (rowsOf t) ∧ dueR (rowsOf t) = some (0, 0) := by
  have hl : t.length ≤ 90000 := by rcases h with rfl | rfl <;> exact Nat.le_of_ble_eq_true rfl
  refine ⟨hl, rowsOf_good hl ?_ ?_, ?_⟩
  · rcases h with rfl | rfl
    · intro c hc; revert c; decide +kernel
    · intro c hc; revert c; decide +kernel
  · rcases h with rfl | rfl <;> decide +kernel
  · rcases h with rfl | rfl <;> decide +kernel
def sp_law (K : PySem.W.Frag) : Sp := fun vs H Q _ => ∃ (a : Addr) (ns : List Int), vs = [.ref a] ∧ SqL K H a (ns.map V.int) ∧ ∀ H', Q (.bl true) H'
theorem okF_law {P : Program} {w : World} {K : PySem.W.Frag} {mg : Str → Option Value} {base : Heap} {fd : FuncData} (T : Txt P K mg) (F : FunD K "law" "law" (defArgs s_law) (defBody s_law) (defScope s_law) [] [] (f_law K) fd) : FnOk P w K mg base CX0 13 (f_law K) fd ["_law_script"] (sp_law K) := by
  have F__law_bag := ok__law_bag (w := w) (base := base) T
  have F__law_lines := ok__law_lines (w := w) (base := base) T
  have F__law_draw := ok__law_draw (w := w) (base := base) T
  have F__law_spoil := ok__law_spoil (w := w) (base := base) T
  have F__law_due := ok__law_due (w := w) (base := base) T
  have F__law_same := ok__law_same (w := w) (base := base) T
  have F__law_asked := ok__law_asked (w := w) (base := base) T
  refine F.ok sc_law (fun vs H Q E h => ?_) (fun cdv A outer s H vs Q E hr h => ?_)
  · obtain ⟨p, ns, rfl, _⟩ := h
    rfl
  · obtain ⟨p, ns, rfl, h⟩ := h
    have hr__law_bag : Room 1 _ := hr.mono (by decide)
    have hr__law_lines : Room 2 _ := hr.mono (by decide)
    have hr__law_draw : Room 1 _ := hr.mono (by decide)
    have hr__law_spoil : Room 3 _ := hr.mono (by decide)
    have hr__law_due : Room 6 _ := hr.mono (by decide)
    have hr__law_same : Room 2 _ := hr.mono (by decide)
    have hr__law_asked : Room 12 _ := hr.mono (by decide)
    refine ⟨_, PSs.nox (pss_cons (ps_set (i := 1) sc_law.nd rfl (Or.inl rfl) (Rr.pe_cR F__law_bag hr__law_bag T.k__law_bag T.g__law_bag Rr.pass0 (pa_cons (pv 0) pa_nil)))
      (pss_cons (ps_for PassesOwn.never rfl (pi_range1 rfl T.b_range (pa_cons pe_int pa_nil)) (pg_name (i := 2) sc_law.nd rfl (Or.inl rfl)) (pss_cons (ps_set (i := 3) sc_law.nd rfl (Or.inl rfl) (Rr.pe_cR F__law_lines hr__law_lines T.k__law_lines T.g__law_lines Rr.pass0 (pa_cons (pv 1) pa_nil)))
      (pss_cons (ps_for PassesOwn.never rfl (pi_range1 rfl T.b_range (pa_cons (pe_op op_mod (Rr.pe_cR F__law_draw hr__law_draw T.k__law_draw T.g__law_draw Rr.pass0 (pa_cons (pv 1) (pa_cons pe_int pa_nil))) pe_int) pa_nil)) (pg_name (i := 4) sc_law.nd rfl (Or.inl rfl)) (pss_one (ps_set (i := 3) sc_law.nd rfl (Or.inl rfl) (Rr.pe_cR F__law_spoil hr__law_spoil T.k__law_spoil T.g__law_spoil Rr.pass0 (pa_cons (pv 1) (pa_cons (pv 3) pa_nil))))))
      (pss_cons (ps_set (i := 5) sc_law.nd rfl (Or.inl rfl) (pe_join pe_str (pe_lc (own := [("_law_words", 7)]) (g := gName 7) (tt := tYes) rfl sc_law.nd (pi_list (pv 3)) (blkOk_by (N := N_law) (sc := defScope s_law) (by decide +kernel)) (fun _ _ _ _ _ => (pg_name (i := 7) sc_law.nd rfl (Or.inl rfl))) (fun _ _ _ _ _ => pts_nil) (fun _ _ _ _ _ => (Rw.pe_joinK (K := K) rfl pe_str (pv 7))))))
      (pss_cons (ps_set (i := 6) sc_law.nd rfl (Or.inl rfl) (Rr.pe_cR F__law_due hr__law_due T.k__law_due T.g__law_due Rr.pass0 (pa_cons (pe_lc (own := [("_law_line", 8)]) (g := gName 8) (tt := tYes) rfl sc_law.nd (pi_list (pe_split (pv 5) pe_str)) (blkOk_by (N := N_law) (sc := defScope s_law) (by decide +kernel)) (fun _ _ _ _ _ => (pg_name (i := 8) sc_law.nd rfl (Or.inl rfl))) (fun _ _ _ _ _ => pts_nil) (fun _ _ _ _ _ => (pe_split (pv 8) pe_str))) pa_nil)))
      (pss_one (ps_if (PW.pt (pw_or (pt_not (pt_truth (Rr.pe_cR F__law_same hr__law_same T.k__law_same T.g__law_same Rr.pass0 (pa_cons (Rr.pe_cR F__law_asked hr__law_asked T.k__law_asked T.g__law_asked Rr.pass0 (pa_cons (pv 5) pa_nil)) (pa_cons (pv 6) pa_nil))) (by intro _; rfl))) (pw_or1 (pt_not (pt_truth (Rr.pe_cR F__law_same hr__law_same T.k__law_same T.g__law_same Rr.pass0 (pa_cons (Rr.pe_cR F__law_asked hr__law_asked T.k__law_asked T.g__law_asked Rr.pass0 (pa_cons (pv 5) pa_nil)) (pa_cons (pv 6) pa_nil))) (by intro _; rfl)))))) (pss_one (ps_ret pe_bl)) pss_nil)))))))
      (pss_one (ps_ret (pe_and (Rr.pe_cR F__law_same hr__law_same T.k__law_same T.g__law_same Rr.pass0 (pa_cons (Rr.pe_cR F__law_asked hr__law_asked T.k__law_asked T.g__law_asked Rr.pass0 (pa_cons pe_str pa_nil)) (pa_cons (pe_tup (pa_cons pe_str (pa_cons pe_int (pa_cons pe_int pa_nil)))) pa_nil))) (pe_one (Rr.pe_cR F__law_same hr__law_same T.k__law_same T.g__law_same Rr.pass0 (pa_cons (Rr.pe_cR F__law_asked hr__law_asked T.k__law_asked T.g__law_asked Rr.pass0 (pa_cons pe_str pa_nil)) (pa_cons (pe_tup (pa_cons pe_str (pa_cons pe_int (pa_cons pe_int pa_nil)))) pa_nil))))))))), ?_⟩
    obtain ⟨hp, k⟩ := h
    show tSeq _ _ _ [some (V.ref p), none, none, none, none, none, none, none, none] H
    refine q_asgG (call_R (vs := [.ref p]) (ea_cons (ev_var rfl) ea_nil) fun H1 e1 => ⟨p, ns, rfl, ex_l e1 hp, fun b H2 c cells a r s _ _ B => ?_⟩)
    dsimp only [List.set]
    refine q_forR1 (n := 4) (ea_cons ev_c ea_nil) (by omega) (fun i σ' H' => ∃ (a r s : Int) (w2 w3 w4 w5 w6 : Option V), σ' = [some (V.ref p), some (.ref b), w2, w3, w4, w5, w6, none, none] ∧ BagAt H' b c cells a r s) (fun H3 e3 => ⟨a, r, s, _, _, _, _, _, rfl, B.ex e3⟩) (fun i σ' H3 hi hP => ?_) (fun σ' H3 hP => ?_)
    · obtain ⟨a, r, s, w2, w3, w4, w5, w6, rfl, B⟩ := hP
      dsimp only [List.set]
      refine q_asgG (call_R (vs := [.ref b]) (ea_cons (ev_var rfl) ea_nil) fun H4 e4 => ⟨b, c, cells, a, r, s, rfl, B.ex e4, fun l G hl I => ?_⟩)
      obtain ⟨_, ⟨a, r, s, B⟩, rows, R, O⟩ := I
      dsimp only [List.set]
      refine q_seq (s_forRA (op_any (call_R (vs := [.ref b, .int 8]) (ea_cons (ev_var rfl) (ea_cons ev_c ea_nil)) fun H5 e5 => ⟨b, 8, c, cells, a, r, s, rfl, by decide, by decide, B.ex e5, fun z G2 a2 r2 s2 hz0 hz1 S2 B2 => ⟨z, 3, rfl, rfl, (by show (0 : Int) < 3; decide), ?_⟩⟩)))
      have R2 := rows_exd (R.ex e5) (B.ex e5).ob S2
      have hz3 : 0 ≤ z % 3 ∧ z % 3 ≤ 2 := by omega
      refine s_forR1 (n := z % 3) (ea_cons ev_c ea_nil) (by omega) (fun j σ' H' => j ≤ 2 ∧ ∃ (l : Addr) (rows : List (List Str)) (a r s : Int) (w4 : Option V), σ' = [some (V.ref p), some (.ref b), some (.int (i : Nat)), some (.ref l), w4, w5, w6, none, none] ∧ BagAt H' b c cells a r s ∧ Rows H' l rows ∧ LOk (3 - j) (14 + j) (8 + j) rows)
        (fun H6 e6 => ⟨by omega, l, rows, a2, r2, s2, w4, rfl, B2.ex e6, R2.ex e6, O⟩) (fun j σ' H6 hj hP => ?_) (fun σ' H6 hP => ?_)
      · obtain ⟨_, l, rows, a, r, s, w4, rfl, B, R, O⟩ := hP
        dsimp only [List.set]
        refine s_asgG (call_R (vs := [.ref b, .ref l]) (ea_cons (ev_var rfl) (ea_cons (ev_var rfl) ea_nil)) fun H7 e7 => ⟨b, l, c, cells, a, r, s, rows, 3 - j, 14 + j, 8 + j, rfl, B.ex e7, R.ex e7, O, by omega, by omega, by omega, by omega, fun q H8 rows' a' r' s' S B' R' O' => ?_⟩)
        exact ⟨by omega, q, rows', a', r', s', _, rfl, B', R', by
          have e1 : 3 - (j + 1) = 3 - j - 1 := by omega
          have e2 : 14 + (j + 1) = 14 + j + 1 := by omega
          have e3 : 8 + (j + 1) = 8 + j + 1 := by omega
          rw [e1, e2, e3]; exact O'⟩
      · obtain ⟨hj, l, rows, a, r, s, w4, rfl, B, R, O⟩ := hP
        have hn17 : 14 + (z % 3).toNat ≤ 17 := by omega
        have hm11 : 8 + (z % 3).toNat ≤ 11 := by omega
        have h1lo : 1 ≤ 3 - (z % 3).toNat := by omega
        have ht := text_len O hn17 hm11
        have G := text_good O hn17 hm11 h1lo
        have hrl := O.len
        obtain ⟨as, hl, hal, hat⟩ := R
        have zl : (as.zip rows).length = rows.length := by rw [List.length_zip]; omega
        have zex : (as.zip rows).map (fun p => V.ref p.1) = as.map V.ref := by
          have : (fun p : Addr × List Str => V.ref p.1) = V.ref ∘ Prod.fst := rfl
          rw [this, ← List.map_map, List.map_fst_zip (by omega)]
        have zrow : (as.zip rows).map (fun p => lineOf p.2) = rows.map lineOf := by
          have : (fun p : Addr × List Str => lineOf p.2) = lineOf ∘ Prod.snd := rfl
          rw [this, ← List.map_map, List.map_snd_zip (by omega)]
        have zat : ∀ y ∈ as.zip rows, H6 y.1 = some (.lst (y.2.map V.str)) ∧ y.2 ∈ rows := fun y hy => by
          obtain ⟨i, hi⟩ := List.getElem?_of_mem hy
          rw [List.getElem?_zip_eq_some] at hi
          exact ⟨hat i _ _ hi.1 hi.2, List.mem_of_getElem? hi.2⟩
        dsimp only
        refine q_asg (v := .str (textOf rows)) ?_ fun H7 e7 => ?_
        · have hsum : ((rows.map lineOf).map (·.length)).sum + (rows.map lineOf).length * ("\n" : Str).length ≤ 16777216 := by
            have h2 := sum_le (xs := rows.map lineOf) (c := 8020) fun x hx => by
              obtain ⟨ws, hws, rfl⟩ := List.mem_map.mp hx
              exact line_len O (by omega) hws
            have h4 : ("\n" : Str).length = 1 := by decide +kernel
            rw [h4]
            rw [List.length_map] at h2 ⊢
            omega
          refine ev_join ev_c ?_ hsum
          have h := el_lcM (σ := [some (V.ref p), some (.ref b), some (.int (i : Nat)), some (.ref l), w4, w5, w6, none, none]) (H := H6) (ys := as.zip rows) (ex := fun p => V.ref p.1) (j := 7) (vs := [7]) (te := tM1 (rJoin K) (tC (.str " ")) (tVar 7)) (wi := iList K (tVar 3)) (fun p => V.str (lineOf p.2)) (by rw [zex]; exact ei_l (ev_var rfl) (sq_of hl)) (by rw [zl, sizeLine_eq]; omega) (fun x => rfl) (fun y hy => ?_)
          · have e : (as.zip rows).map (fun p => V.str (lineOf p.2)) = (rows.map lineOf).map V.str := by rw [← zrow, List.map_map]; rfl
            rw [e] at h
            exact h
          · obtain ⟨hy1, hy2⟩ := zat y hy
            refine ev_joinV (p := y.1) ev_c (ev_var rfl) (sq_of hy1) ?_
            have h2 := sum_le (xs := y.2) (c := 400) fun w hw => wok_len (O.wok _ hy2 w hw)
            have h3 := O.wid _ hy2
            have h4 : (" " : Str).length = 1 := by decide +kernel
            rw [h4]
            omega
        have B7 := B.ex e7
        clear zat zrow zex zl hat hal hl B
        dsimp only [List.set]
        have hz : ∀ n, n ≤ 90000 → n + 2 ≤ sizeLine := fun n hn => by rw [sizeLine_eq]; omega
        refine q_asgG (call_1R (el_rows (fun l => Txt.split l " ") (ei_nl (el_split (ev_var rfl) ev_c (by decide +kernel) (hz _ ht))) (by have := PyProof.Rows.split_le (textOf rows) "\n"; have := hz _ ht; omega) (fun x => rfl) (fun l hl => el_split (ev_var rfl) ev_c (by decide +kernel) (hz _ (Nat.le_trans (split_part nl_ne.1 nl_ne.2 hl) ht))) H7 (Ex.refl H7) _ fun p8 H8 _ e8 R8 => ⟨p8, rowsOf (textOf rows), rfl, R8, G, fun pd H9 e9 h9 => ?_⟩))
        have B9 := B7.ex (e8.trans e9)
        dsimp only [List.set]
        have same : ∀ H10, Ex H9 H10 → Ev (Rr.tR sp_same (fun _ _ _ _ => False) (tCons (Rr.tR sp_asked (fun _ _ _ _ => False) (tCons (tVar 5) tNil)) (tCons (tVar 6) tNil))) [some (V.ref p), some (.ref b), some (.int (i : Nat)), some (.ref l), w4, some (.str (textOf rows)), some (.ref pd), none, none] H10 (.bl true) := fun H10 e10 => ev_same (ev_var rfl) ht G fun H11 e11 Q q => ev_var rfl H11 e11 _ fun H12 e12 => q pd H12 e12 (((e10.trans e11).trans e12) _ _ h9)
        refine s_when (b := false) (et_is (et_or (et_not (et_truth (same H9 (Ex.refl _)))) fun _ => et_not (et_truth (same H9 (Ex.refl _)))) rfl) (fun hb => by cases hb) (fun _ H10 e10 => ⟨a, r, s, _, _, _, _, _, rfl, B9.ex e10⟩)
    · obtain ⟨a, r, s, w2, w3, w4, w5, w6, rfl, B⟩ := hP
      have same : ∀ (t : Str), t = "" ∨ t = "none" → Ev (Rr.tR sp_same (fun _ _ _ _ => False) (tCons (Rr.tR sp_asked (fun _ _ _ _ => False) (tCons (tC (.str t)) tNil)) (tCons (tTup (tCons (tC (.str "refused")) (tCons (tC (.int 0)) (tCons (tC (.int 0)) tNil)))) tNil))) [some (V.ref p), some (.ref b), w2, w3, w4, w5, w6, none, none] H3 (.bl true) := fun t ht => by
        obtain ⟨h1, h2, h3⟩ := good_small ht
        refine ev_same ev_c h1 h2 fun H4 e4 Q q => (eu_tup (vs := [.str "refused", .int 0, .int 0]) (ea_cons ev_c (ea_cons ev_c (ea_cons ev_c ea_nil))) (by simp)) H4 e4 _ fun r H5 _ e5 h5 => q r H5 e5 ?_
        rw [h3]
        exact h5
      exact s_ret (v := .bl true) (ev_andV (same "" (.inl rfl)) fun _ => same "none" (.inr rfl)) fun H5 _ => k H5
open PySem PySem.Spec PyProof.Rows L2
theorem hRun (w : World) : HandSHeadRun.RunEq hR (PySem.W.view hR.prog [66]) hk hOb 9000 hLoose w := fun os => Hx.run_four (x := hEnd w os) (look1 w os) (look2 w os) (look3 w os) (look4 w os)
end Cs
open PySem PySem.W PySem.Calls PyProof.Rows
set_option maxRecDepth 100000 in
set_option maxHeartbeats 0 in
theorem PySem.Challenge.cw_codestitch_k93_texts_refused_holds : PySem.Challenge.rw_codestitch_k93_texts_refused.Holds := by
  w_on; o_law
  refine HandSHeadRun.head_any (r := OpenLaw.row PySem.Challenge.rw_codestitch_k93_texts_refused) (q := view (OpenLaw.row PySem.Challenge.rw_codestitch_k93_texts_refused).prog [66]) (H := Cs.hk) (ob := Cs.hOb) (M := 9000) (loose := Cs.hLoose) (d := HandSHeadRun.topDef (OpenLaw.row PySem.Challenge.rw_codestitch_k93_texts_refused).prog 66) (kwd := []) Cs.hOb_eq
    (by kernel_rfl) (fun s => by kernel_rfl) Cs.hRun (by kernel_rfl) (by kernel_rfl) (by kernel_rfl) (by rfl) (by first | assumption | decide +kernel) (by decide +kernel) ⟨rfl, rfl, rfl, rfl, rfl, by decide +kernel⟩ ?hw ?hc
  case hw => w_witness2
  case hc =>
    refine L2.walk_ofE (l := PySem.Challenge.rw_codestitch_k93_texts_refused) (n := 63) (k := 13) (x := "_law_script") (CX := L2.CX0) rfl (by decide) (by kernel_rfl) ⟨rfl, by decide, by decide⟩ ?F (fun _ _ _ _ z => z)
    intro w mg fa h Y G hmg0
    obtain ⟨K, KX, c⟩ := Y
    have hmg : mg ("law" : PySem.Str) = some (.ref fa) := by
      have e : (HandSHeadRun.topDef (OpenLaw.row PySem.Challenge.rw_codestitch_k93_texts_refused).prog 66).name = ("law" : PySem.Str) := by kernel_rfl
      rw [← e]
      exact hmg0
    have T := Cs.txt_of KX G c
    have ef := hmg.symm.trans T.g_law
    cases ef
    obtain ⟨fd, F⟩ := T.F_law
    have b := L2.FunD.bindsA (ps := ["_law_script"]) F fun _ _ _ _ _ _ us hl => match us, hl with | [_], _ => rfl
    exact ⟨K, fd, Cs.sp_law K, KX, fun s v => b s [v] rfl, fun H a ns _ _ hS => ⟨a, ns, rfl, hS, fun _ => rfl⟩, fun base _ _ => Cs.okF_law (w := w) (base := base) T F⟩
