import PyProof.Rows.All
import Wide.All
import OpenK.AllK
import Wide.FinOn
import KE.KSuperObj
import KE.KSuper
import KE.SortKeyHeap
import HandS.ForMost
import HandS.Property
import HandS.MakeKw
import HandS.TupMul
import HandS.TupAny
import HandS.Deep
import HandS.SortKw
import HandS.Star
import HandS.ClsMeth
import HandS.IsInst
import HandS.More
import HandS.Conv
import HandS.Exc
import HandS.Defaults
import HandS.Codes
import HandS.Small
import HandS.Head0
import HandS.Head1
import HandS.Head2
import HandS.HeadEnd
import HandS.HeadHook1
import HandS.HeadHook2
import HandS.HeadHook3
import PySem.Challenge.RW_epochrooms_k49_whole_safe_still_points_h
set_option Elab.async false
set_option linter.all false
set_option maxRecDepth 100000
set_option maxHeartbeats 4000000
namespace EpR
open PySem PySem.Spec L2
open PyProof.Rows hiding St
section
variable {X : Cx} {k : Nat} {C g : Addr} {fd : FuncData} {ps : List Str} {sp : Sp} {a b : Expr} {ta tb : TE} {pos : Pos}
/-- what a class must have that its instances are read by o[i] -/
structure IxOwn (K : PySem.W.Frag) (C g : Addr) : Prop where
  at_ : PySem.W.findIn K (.ref C) "__getitem__" = some (some (.ref g))
  fi : PySem.W.fnIn K g = true
  fn : PySem.W.isFn K (.ref g) = true
/-- the callee runs one deeper -/
theorem run_fn1 {pins : List (Addr × Obj)} {σ : St} {H : Hp} {s : Shared} {Q : VK} {us : List Value} {vs : List V} (F : FnOk X.prog X.w X.K X.mg X.base CX0 k g fd ps sp) (hr : Room (k + 1) X.A) (hb : Binds X.K fd ps [])
    (I : Inv X pins σ H s) (r : Vals vs us) (h : sp vs H Q E0) : wpAny (model X.prog X.w) X.A.in1 (call (.ref g) us) (EP X pins σ Q) X.xe s := by
  have hl : (us ++ []).length = ps.length := by
    rw [List.append_nil, ← r.length]
    exact F.len _ _ _ _ h
  refine wpAny_call (codeAny_mono (F.run X.A.in1 X.stack s H ⟨us, []⟩ us vs Q E0 hr.in1 I.env0.in1 (by
    have z := hb s us I.kIn hl
    rw [List.append_nil] at z
    exact z) r h) fun r s' hq => ?_)
  cases r with
  | error e => exact False.elim hq
  | ok fl =>
    cases fl with
    | ret u => exact I.after hq
    | next => exact False.elim hq
    | brk => exact False.elim hq
    | cont => exact False.elim hq
def tOwnIx (C : Addr) (sp : Sp) (ta tb : TE) : TE := fun σ H Q => ta σ H fun x H1 => tb σ H1 fun y H2 => ∃ a dx fs, x = .ref a ∧ H2 a = some (.ins C dx fs) ∧ sp [.ref a, y] H2 Q E0
/-- o[i] by an own __getitem__ -/
theorem pe_own (c : IxOwn X.K C g) (F : FnOk X.prog X.w X.K X.mg X.base CX0 k g fd ps sp) (hr : Room (k + 1) X.A) (hb : Binds X.K fd ps []) (ha : PE X a ta) (hi : PE X b tb)
    (hsl : ∀ o i, subscripted b true o i = runValue (.builtin "lifetime.subscript" ⟨[o, i], []⟩) := by intro _ _; rfl) : PE X (.Subscript a b pos) (tOwnIx C sp ta tb) := by
  refine ⟨fun pins s σ H Q I h => ?_⟩
  refine Subscript_ (binT ha hi I h fun v u s2 x y H2 I2 rx ry q => ?_)
  obtain ⟨p, dx, fs, rfl, hp, q⟩ := q
  obtain rfl : v = Value.ref p := rx
  obtain ⟨mA, O, _⟩ := ins_get I2.hok hp
  obtain ⟨od, J, _⟩ := O.look
  obtain ⟨m, F1⟩ := I2.fr
  exact PySem.W.sub_K F1 I2.mod.kin J c.at_ c.fi c.fn (run_fn1 F hr hb I2 (us := [.ref p, u]) (vs := [.ref p, y]) (.cons rfl (.cons ry .nil)) q) (hsl _ _)
/-- what a class must have that o[i] = v is its own -/
structure SetOwn (K : PySem.W.Frag) (C g : Addr) : Prop where
  at_ : PySem.W.findIn K (.ref C) "__setitem__" = some (some (.ref g))
  seq : PySem.W.noSeq K C = true
  fn : PySem.W.isFn K (.ref g) = true
def rSetOwn (C : Addr) (sp : Sp) : TSet := fun o i v H Q => ∃ a dx fs, o = .ref a ∧ H a = some (.ins C dx fs) ∧ sp [.ref a, i, v] H (fun _ H' => Q H') E0
theorem set_own (c : SetOwn X.K C g) (F : FnOk X.prog X.w X.K X.mg X.base CX0 k g fd ps sp) (hr : Room k X.A) (hb : Binds X.K fd ps []) : PSet X (rSetOwn C sp) := by
  intro pins s σ H o i v ov iv u Q I ro ri rv h
  obtain ⟨p, dx, fs, rfl, hp, q⟩ := h
  obtain rfl : ov = Value.ref p := ro
  obtain ⟨mA, O, _⟩ := ins_get I.hok hp
  obtain ⟨od, J, _⟩ := O.look
  obtain ⟨m, F1⟩ := I.fr
  refine PySem.W.ksp_setItem F1 I.mod.kin J c.seq c.at_ c.fn (thn (run_fn F hr hb .nil pass0 I (us := [.ref p, iv, u]) (vs := [.ref p, i, v]) (.cons rfl (.cons ri (.cons rv .nil))) q) fun _ s' ⟨_, H', I', _, q'⟩ => ⟨H', I', q'⟩)
end
/-! o.f as a target among several -/
section
variable {X : Cx} {o : Expr} {f : Str} {pos : Pos} {to : TE}
def gFld (K : PySem.W.Frag) (to : TE) (f : Str) : TG := fun v σ H Q => to σ H fun x H1 => ∃ a C dx fs, x = .ref a ∧ H1 a = some (.ins C dx fs) ∧ Cls K C ∧ NoAttr K C f ∧ fs.length < 1000 ∧ Q σ (upd H1 a (.ins C dx (putF f v fs)))
theorem pg_fld (ho : PE X o to) : PG X (.Attribute o f pos) (gFld X.K to f) := by
  refine ⟨fun pins s σ H v u Q I r h => ?_⟩
  rw [assign_Attribute]
  refine wpAny_bind (wpAny_holding (thn (ho.run pins s σ H _ I h) fun ov s1 ⟨x, H1, I1, r1, a, C, dx, fs, ex, ea, c, n, l, q1⟩ => ?_))
  subst ex
  obtain rfl : ov = Value.ref a := r1
  refine wpAny_bind (wpAny_standAt (wpAny_bind (wpAny_holding (setattr_ok I1 ea c n l r fun s3 I3 => ?_))))
  exact wpAny_release ⟨σ, _, I3, q1⟩
end
end EpR
namespace Ep
open PySem PySem.Spec L2 EpR
open PyProof.Rows hiding St
def top (i : Nat) : Stmt := PySem.Challenge.pw_epochrooms_k49_whole_safe_still_points_h.main.body.getD i (.Pass ⟨0, 0, 0, 0⟩)
abbrev FunP (K : PySem.W.Frag) (x qual : Str) (st : Stmt) (dvs : List V) (kws : List (Str × V)) (f : Addr) (fd : FuncData) : Prop := FunD K x qual (defArgs st) (defBody st) (defScope st) dvs kws f fd
section
variable (P : Program) (w : World) (K : PySem.W.Frag) (mg : Str → Option Value) (base : Heap)
/-- a def of the module, by its name -/
structure Cal (k : Nat) (x : Str) (sp : Sp) : Prop where
  ex : ∃ (f : Addr) (fd : FuncData) (ps : List Str), FnOk P w K mg base CX0 k f fd ps sp ∧ mg x = some (.ref f) ∧ PySem.W.keepIn K (.ref f) = true ∧ Binds K fd ps []
/-- a method -/
structure Met (k : Nat) (C : Addr) (m : Str) (sp : Sp) : Prop where
  ex : ∃ (f : Addr) (fd : FuncData) (ps : List Str), Cls K C ∧ Meth K C m f ∧ FnOk P w K mg base CX0 k f fd ps sp ∧ Binds K fd ps []
/-- a class, made by its name with positional arguments -/
structure Mak (k : Nat) (x : Str) (C : Addr) (sp : Sp) : Prop where
  ex : ∃ (f : Addr) (fd : FuncData) (ps : List Str) (ds : List Value) (dvs : List V) (sp0 : Sp), Mk K C f ∧ FnOk P w K mg base CX0 k f fd ps sp0 ∧ mg x = some (.ref C) ∧ Binds K fd ps ds ∧ Vals dvs ds ∧ ∀ vs, sp0 (vs ++ dvs) = sp vs
/-- .. with n positional ones and keywords -/
structure MaN (k : Nat) (x : Str) (C : Addr) (n : Nat) (ks : List Str) (sp : Sp) : Prop where
  ex : ∃ (f : Addr) (fd : FuncData) (ps : List Str) (g : List Value → List Value → List Value), Mk K C f ∧ FnOk P w K mg base CX0 k f fd ps sp ∧ mg x = some (.ref C) ∧ KBn K fd ps (n + 1) ks g (fun vs zs => vs ++ zs)
/-- a property -/
structure Prp (k : Nat) (C : Addr) (x : Str) (sp : Sp) : Prop where
  ex : ∃ (p g : Addr) (fd : FuncData) (ps : List Str), Cls K C ∧ PropOf K C x p g ∧ FnOk P w K mg base CX0 k g fd ps sp ∧ Binds K fd ps []
/-- own subscripts -/
structure Gti (k : Nat) (C : Addr) (sp : Sp) : Prop where
  ex : ∃ (g : Addr) (fd : FuncData) (ps : List Str), IxOwn K C g ∧ FnOk P w K mg base CX0 k g fd ps sp ∧ Binds K fd ps []
structure Sti (k : Nat) (C : Addr) (sp : Sp) : Prop where
  ex : ∃ (g : Addr) (fd : FuncData) (ps : List Str), SetOwn K C g ∧ FnOk P w K mg base CX0 k g fd ps sp ∧ Binds K fd ps []
end
def tC1 (sp : Sp) (t : TA) : TE := fun σ H Q => t σ H fun vs H1 => sp vs H1 Q E0
def tM1 (C : Addr) (m : Str) (sp : Sp) (ta : TE) (t : TA) : TE := fun σ H Q => ta σ H fun x H1 => ∃ a dx fs, x = .ref a ∧ H1 a = some (.ins C dx fs) ∧ fs.lookup m = none ∧ t σ H1 fun vs H2 => sp (.ref a :: vs) H2 Q E0
def tK1 (C : Addr) (sp : Sp) (t : TA) : TE := fun σ H Q => t σ H fun vs H1 => ∀ x dx, H1 x = none → H1 dx = none → dx ≠ x → sp (.ref x :: vs) (upd (upd H1 dx (.own x)) x (.ins C dx [])) (fun v H2 => v = .non ∧ Q (.ref x) H2) E0
def tP1 (C : Addr) (sp : Sp) (ta : TE) : TE := fun σ H Q => ta σ H fun x H1 => ∃ a dx fs, x = .ref a ∧ H1 a = some (.ins C dx fs) ∧ sp [.ref a] H1 Q E0
section
variable {X : Cx} {k j : Nat} {C : Addr} {x m : Str} {sp : Sp} {p pos apos : Pos} {e o i : Expr} {es : List Expr} {ta tb : TE} {t : TA}
theorem pe_c (c : Cal X.prog X.w X.K X.mg X.base k x sp) (hr : Room j X.A) (hk : k ≤ j) (hg : Gl X x) (ha : PA X (e :: es) t)
    (hdb : (x == ("__debug__" : Str)) = false := by decide) (he : starEach (e :: es) X.env = (false, eval e X.env) :: starEach es X.env := by rfl) (hpl : (backTo pos (starEach es X.env)).any (·.1) = false := by rfl) :
    PE X (.Call (.Name x p) (e :: es) [] pos) (tC1 sp t) := by
  obtain ⟨f, fd, ps, F, hm, kp, b⟩ := c.ex
  refine ⟨fun pins s σ H Q I h => (pe_call F (hr.mono hk) hg hm kp b .nil pass0 ha hdb he hpl).run pins s σ H Q I ?_⟩
  show t σ H fun vs H1 => sp (vs ++ []) H1 Q E0
  simp only [List.append_nil]
  exact h
theorem pe_m {pl : Sem Bool} (c : Met X.prog X.w X.K X.mg X.base k C m sp) (hr : Room j X.A) (hk : k ≤ j) (he : PE X o ta) (ha : PA X (e :: es) t)
    (hst : starEach (e :: es) X.env = (false, eval e X.env) :: starEach es X.env := by rfl) (hpl : (backTo pos (starEach es X.env)).any (·.1) = false := by rfl)
    (ht : eval (.Call (.Attribute o m apos) (e :: es) [] pos) X.env = (do
      let ov ← eval o X.env
      standAt apos.atName
      let (f, first) ← holding [ov] (getMethod ov m pl)
      callWith pos f first (backTo pos (starEach (e :: es) X.env)) (backToKw pos (keywordEach [] X.env))) := by rfl) :
    PE X (.Call (.Attribute o m apos) (e :: es) [] pos) (tM1 C m sp ta t) := by
  obtain ⟨f, fd, ps, hc, hm, F, b⟩ := c.ex
  refine ⟨fun pins s σ H Q I h => (pe_meth (pl := pl) he hc hm F (hr.mono hk) b .nil pass0 ha hst hpl ht).run pins s σ H Q I ?_⟩
  obtain ⟨h⟩ : Nonempty (tM1 C m sp ta t σ H Q) := ⟨h⟩
  show ta σ H fun x H1 => ∃ a dx fs, x = .ref a ∧ H1 a = some (.ins C dx fs) ∧ fs.lookup m = none ∧ t σ H1 fun vs H2 => sp (x :: (vs ++ [])) H2 Q E0
  have e2 : (fun (x : V) (H1 : Hp) => ∃ a dx fs, x = .ref a ∧ H1 a = some (.ins C dx fs) ∧ fs.lookup m = none ∧ t σ H1 fun vs H2 => sp (x :: (vs ++ [])) H2 Q E0) =
      fun (x : V) (H1 : Hp) => ∃ a dx fs, x = .ref a ∧ H1 a = some (.ins C dx fs) ∧ fs.lookup m = none ∧ t σ H1 fun vs H2 => sp (.ref a :: vs) H2 Q E0 := by
    funext x H1
    apply propext
    constructor
    · rintro ⟨a, dx, fs, rfl, h1, h2, h3⟩
      exact ⟨a, dx, fs, rfl, h1, h2, by simpa only [List.append_nil] using h3⟩
    · rintro ⟨a, dx, fs, rfl, h1, h2, h3⟩
      exact ⟨a, dx, fs, rfl, h1, h2, by simpa only [List.append_nil] using h3⟩
  rw [e2]
  exact h
theorem pe_m0 {pl : Sem Bool} (c : Met X.prog X.w X.K X.mg X.base k C m sp) (hr : Room j X.A) (hk : k ≤ j) (he : PE X o ta)
    (ht : eval (.Call (.Attribute o m apos) [] [] pos) X.env = (do
      let ov ← eval o X.env
      standAt apos.atName
      let (f, first) ← holding [ov] (getMethod ov m pl)
      callWith pos f first (backTo pos (starEach [] X.env)) (backToKw pos (keywordEach [] X.env))) := by rfl) :
    PE X (.Call (.Attribute o m apos) [] [] pos) (tM1 C m sp ta tNil) := by
  obtain ⟨f, fd, ps, hc, hm, F, b⟩ := c.ex
  refine ⟨fun pins s σ H Q I h => (pe_meth0 (pl := pl) he hc hm F (hr.mono hk) b .nil pass0 ht).run pins s σ H Q I ?_⟩
  have e2 : (fun (x : V) (H1 : Hp) => ∃ a dx fs, x = .ref a ∧ H1 a = some (.ins C dx fs) ∧ fs.lookup m = none ∧ tNil σ H1 fun vs H2 => sp (x :: (vs ++ [])) H2 Q E0) =
      fun (x : V) (H1 : Hp) => ∃ a dx fs, x = .ref a ∧ H1 a = some (.ins C dx fs) ∧ fs.lookup m = none ∧ tNil σ H1 fun vs H2 => sp (.ref a :: vs) H2 Q E0 := by
    funext x H1
    apply propext
    constructor
    · rintro ⟨a, dx, fs, rfl, h1, h2, h3⟩
      exact ⟨a, dx, fs, rfl, h1, h2, by simpa only [List.append_nil] using h3⟩
    · rintro ⟨a, dx, fs, rfl, h1, h2, h3⟩
      exact ⟨a, dx, fs, rfl, h1, h2, by simpa only [List.append_nil] using h3⟩
  show ta σ H fun x H1 => ∃ a dx fs, x = .ref a ∧ H1 a = some (.ins C dx fs) ∧ fs.lookup m = none ∧ tNil σ H1 fun vs H2 => sp (x :: (vs ++ [])) H2 Q E0
  rw [e2]
  exact h
theorem pe_k (c : Mak X.prog X.w X.K X.mg X.base k x C sp) (hr : Room j X.A) (hk : k + 1 ≤ j) (hg : Gl X x) (ha : PA X (e :: es) t)
    (hdb : (x == ("__debug__" : Str)) = false := by decide) (he : starEach (e :: es) X.env = (false, eval e X.env) :: starEach es X.env := by rfl) (hpl : (backTo pos (starEach es X.env)).any (·.1) = false := by rfl)
    (hsp : ∀ v vs dvs (sp0 : Sp), (∀ vs, sp0 (vs ++ dvs) = sp vs) → sp0 (v :: (vs ++ dvs)) = sp (v :: vs) := by exact fun v vs dvs sp0 h => h (v :: vs)) :
    PE X (.Call (.Name x p) (e :: es) [] pos) (tK1 C sp t) := by
  obtain ⟨f, fd, ps, ds, dvs, sp0, M, F, hm, b, d, hs⟩ := c.ex
  refine ⟨fun pins s σ H Q I h => (pe_make M F (hr.mono hk) hg hm b d pass0 ha hdb he hpl).run pins s σ H Q I ?_⟩
  show t σ H fun vs H1 => ∀ x dx, H1 x = none → H1 dx = none → dx ≠ x → sp0 (.ref x :: (vs ++ dvs)) (upd (upd H1 dx (.own x)) x (.ins C dx [])) (fun v H2 => v = .non ∧ Q (.ref x) H2) E0
  have e2 : (fun (vs : List V) (H1 : Hp) => ∀ x dx, H1 x = none → H1 dx = none → dx ≠ x → sp0 (.ref x :: (vs ++ dvs)) (upd (upd H1 dx (.own x)) x (.ins C dx [])) (fun v H2 => v = .non ∧ Q (.ref x) H2) E0) =
      fun (vs : List V) (H1 : Hp) => ∀ x dx, H1 x = none → H1 dx = none → dx ≠ x → sp (.ref x :: vs) (upd (upd H1 dx (.own x)) x (.ins C dx [])) (fun v H2 => v = .non ∧ Q (.ref x) H2) E0 := by
    funext vs H1
    simp only [hsp _ _ _ _ hs]
  rw [e2]
  exact h
theorem pe_kn {n : Nat} {ks : List Str} {kws : List Keyword} {tk : TA} (c : MaN X.prog X.w X.K X.mg X.base k x C n ks sp) (hr : Room j X.A) (hk : k + 1 ≤ j) (hg : Gl X x) (ha : PA X (e :: es) t) (hkw : PK X kws tk)
    (hks : (backToKw pos (keywordEach kws X.env)).filterMap (·.1) = ks := by rfl) (hall : (backToKw pos (keywordEach kws X.env)).all (·.1.isSome) = true := by rfl)
    (hdb : (x == ("__debug__" : Str)) = false := by decide) (he : starEach (e :: es) X.env = (false, eval e X.env) :: starEach es X.env := by rfl)
    (hpl : ((backTo pos (starEach (e :: es) X.env)).any (·.1) || (backToKw pos (keywordEach kws X.env)).any (·.1.isNone)) = false := by rfl) :
    PE X (.Call (.Name x p) (e :: es) kws pos) (tMakeN C n ks.length sp (fun vs zs => vs ++ zs) E0 t tk) := by
  obtain ⟨f, fd, ps, g, M, F, hm, b⟩ := c.ex
  exact pe_makeN M F (hr.mono hk) hg hm b pass0 ha hkw hall hks hdb he hpl
theorem pe_p (c : Prp X.prog X.w X.K X.mg X.base k C x sp) (hr : Room j X.A) (hk : k + 1 ≤ j) (he : PE X o ta) (hx : attributeBase o x X.env (eval o X.env) = eval o X.env := by rfl) : PE X (.Attribute o x pos) (tP1 C sp ta) := by
  obtain ⟨pa, g, fd, ps, hc, hp, F, b⟩ := c.ex
  exact pe_prop he hc hp F (hr.mono hk) b .nil pass0 hx
theorem pe_g (c : Gti X.prog X.w X.K X.mg X.base k C sp) (hr : Room j X.A) (hk : k + 1 ≤ j) (he : PE X o ta) (hi : PE X i tb)
    (hsl : ∀ o i', subscripted i true o i' = runValue (.builtin "lifetime.subscript" ⟨[o, i'], []⟩) := by intro _ _; rfl) : PE X (.Subscript o i pos) (tOwnIx C sp ta tb) := by
  obtain ⟨g, fd, ps, hc, F, b⟩ := c.ex
  exact pe_own hc F (hr.mono hk) b he hi hsl
theorem set_s (c : Sti X.prog X.w X.K X.mg X.base k C sp) (hr : Room j X.A) (hk : k ≤ j) : PSet X (rSetOwn C sp) := by
  obtain ⟨g, fd, ps, hc, F, b⟩ := c.ex
  exact set_own hc F (hr.mono hk) b
end
/-! tests -/
theorem iteD {p A B : Prop} [Decidable p] (h : ¬ p) (x : B) : if decide p = true then A else B := by
  rw [decide_eq_false h]
  exact iteF x
theorem iteDT {p A B : Prop} [Decidable p] (h : p) (x : A) : if decide p = true then A else B := by
  rw [decide_eq_true h]
  exact iteT x
theorem iteN {p A B : Prop} [Decidable p] (h : p) (x : B) : if (!decide p) = true then A else B := by
  rw [decide_eq_true h]
  exact iteF x
theorem iteNT {p A B : Prop} [Decidable p] (h : ¬ p) (x : A) : if (!decide p) = true then A else B := by
  rw [decide_eq_false h]
  exact iteT x
theorem ite2D {p A B : Prop} [Decidable p] (h1 : p → A) (h2 : ¬ p → B) : if decide p = true then A else B := by
  by_cases h : p
  · exact iteDT h (h1 h)
  · exact iteD h (h2 h)
theorem blT {p : Prop} [Decidable p] {Q : VK} {H : Hp} (h : p) (q : Q (.bl true) H) : Q (.bl (decide p)) H := by
  rw [decide_eq_true h]
  exact q
theorem blF {p : Prop} [Decidable p] {Q : VK} {H : Hp} (h : ¬ p) (q : Q (.bl false) H) : Q (.bl (decide p)) H := by
  rw [decide_eq_false h]
  exact q
/-! heaps -/
theorem same_upd {H : Hp} {p : Addr} {o : HO} (h : H p = none) : Same H (upd H p o) := fun b q e => by
  rw [upd_ne (fun z => by rw [z, h] at e; cases e)]
  exact e
theorem same_upd' {H0 H : Hp} {p : Addr} {o : HO} (s : Same H0 H) (h : H0 p = none) : Same H0 (upd H p o) := fun b q e => by
  rw [upd_ne (fun z => by rw [z, h] at e; cases e)]
  exact s _ _ e
theorem sqT_same {K : PySem.W.Frag} {H H' : Hp} {a : Addr} {xs : List V} (e : Same H H') (h : SqT K H a xs) : SqT K H' a xs := by
  rcases h with (h | ⟨o, h⟩) | h
  · exact .inl (.inl (e _ _ h))
  · exact .inl (.inr ⟨o, e _ _ h⟩)
  · exact .inr h
theorem sqT_of {K : PySem.W.Frag} {H : Hp} {a : Addr} {xs : List V} (h : H a = some (.tup xs)) : SqT K H a xs := .inl (.inl h)
theorem sqL_of {K : PySem.W.Frag} {H : Hp} {a : Addr} {xs : List V} (h : H a = some (.lst xs)) : SqL K H a xs := .inl (.inl h)
/-- a tuple of the module -/
def KTup (K : PySem.W.Frag) (a : Addr) (xs : List V) : Prop := ∃ (o : Obj) (its : Array Value) (n : Nat), K.lookup a = some o ∧ o.cls = .type "tuple" ∧ o.data = .seq its n ∧ its.size ≤ sizeLine ∧ Vals xs its.toList
theorem KTup.sq {K : PySem.W.Frag} {a : Addr} {xs : List V} (h : KTup K a xs) (H : Hp) : SqT K H a xs := .inr h
end Ep
namespace Ep
open PySem PySem.Spec L2 EpR
open PyProof.Rows hiding St
/-! the addresses of the text, the facts of the text -/
structure Ad where
  CS : Addr
  CT : Addr
  CW : Addr
  CN : Addr
  CE : Addr
  CL : Addr
  tW : Addr
  oa : Addr
  t2 : Addr
  t3 : Addr
  t4 : Addr
inductive Wd where
  | counts | still | read | sleep
def Wd.s : Wd → Str
  | .counts => "counts" | .still => "still" | .read => "read" | .sleep => "sleep"
def words4 : List V := [.str "counts", .str "still", .str "read", .str "sleep"]
def vals : Wd → List V
  | .counts => [.int 1, .int 2, .int 3, .int 4]
  | .still => [.str "anywhere", .str "outside"]
  | .read => [.str "ahead", .str "behind"]
  | .sleep => [.str "inside", .str "late", .str "outside", .str "none"]
structure Bk where
  c : Int
  st : Bool
  rd : Bool
  sl : Bool
def stS (b : Bool) : Str := if b then "anywhere" else "outside"
def rdS (b : Bool) : Str := if b then "behind" else "ahead"
def slS (b : Bool) : Str := if b then "outside" else "none"
def Bk.ok (b : Bk) : Prop := 1 ≤ b.c ∧ b.c ≤ 4
def Bk.at (b : Bk) : Wd → V
  | .counts => .int b.c | .still => .str (stS b.st) | .read => .str (rdS b.rd) | .sleep => .str (slS b.sl)
def Bk.kv (b : Bk) : List (Key × V) := [(.inr "counts", b.at .counts), (.inr "still", b.at .still), (.inr "read", b.at .read), (.inr "sleep", b.at .sleep)]
theorem Wd.inj {a b : Wd} : a.s = b.s → a = b := by
  cases a <;> cases b <;> first | (intro _; rfl) | (intro h; exact absurd h (by decide +kernel))
theorem valS_ne {x y : Str} {v : V} {r : List (Key × V)} (h : x ≠ y) : valV (((Sum.inr x : Key), v) :: r) (Sum.inr y) = valV r (Sum.inr y) := valV_neg (fun e => h (Sum.inr.inj e))
theorem valS_eq {x : Str} {v : V} {r : List (Key × V)} : valV (((Sum.inr x : Key), v) :: r) (Sum.inr x) = some v := valV_pos rfl
theorem Bk.get (b : Bk) (wd : Wd) : valV b.kv (.inr wd.s) = some (b.at wd) := by
  cases wd
  · exact valS_eq
  · exact (valS_ne (by decide +kernel)).trans valS_eq
  · exact (valS_ne (by decide +kernel)).trans ((valS_ne (by decide +kernel)).trans valS_eq)
  · exact (valS_ne (by decide +kernel)).trans ((valS_ne (by decide +kernel)).trans ((valS_ne (by decide +kernel)).trans valS_eq))
theorem Bk.mem {b : Bk} (h : b.ok) (wd : Wd) : b.at wd ∈ vals wd := by
  cases wd
  · obtain ⟨h1, h2⟩ := h
    have : b.c = 1 ∨ b.c = 2 ∨ b.c = 3 ∨ b.c = 4 := by omega
    show V.int b.c ∈ _
    rcases this with e | e | e | e <;> rw [e] <;> simp [vals]
  · show V.str (stS b.st) ∈ _
    cases b.st <;> simp [vals, stS]
  · show V.str (rdS b.rd) ∈ _
    cases b.rd <;> simp [vals, rdS]
  · show V.str (slS b.sl) ∈ _
    cases b.sl <;> simp [vals, slS]
def bkF (od ol : Addr) : List (Str × V) := [("own", .ref od), ("order", .ref ol)]
def BookAt (a : Ad) (H : Hp) (p : Addr) (b : Bk) : Prop := b.ok ∧ ∃ dx od ol, H p = some (.ins a.CS dx (bkF od ol)) ∧ H od = some (.dK b.kv)
theorem BookAt.same {a : Ad} {H H' : Hp} {p : Addr} {b : Bk} (s : Same H H') (h : BookAt a H p b) : BookAt a H' p b :=
  let ⟨k, dx, od, ol, h1, h2⟩ := h
  ⟨k, dx, od, ol, s _ _ h1, s _ _ h2⟩
/-- all but one object is as it was -/
def SameB (p : Addr) (H H' : Hp) : Prop := ∀ b o, b ≠ p → H b = some o → H' b = some o
theorem SameB.of {p : Addr} {H H' : Hp} (s : Same H H') : SameB p H H' := fun b o _ e => s b o e
theorem SameB.trans {p : Addr} {H H1 H2 : Hp} (s : SameB p H H1) (t : SameB p H1 H2) : SameB p H H2 := fun b o n e => t b o n (s b o n e)
theorem SameB.upd {p : Addr} {H H1 : Hp} {o : HO} (s : SameB p H H1) : SameB p H (upd H1 p o) := fun b u n e => by
  rw [upd_ne n]
  exact s b u n e
theorem SameB.same0 {p : Addr} {H0 H H1 : Hp} (s0 : Same H0 H) (p0 : H0 p = none) (s : SameB p H H1) : Same H0 H1 := fun b u e => s b u (fun z => by rw [z, p0] at e; cases e) (s0 _ _ e)
/-- setting -/
structure Cg where
  b : Bk
  r : Int
  t : Int
  th : Int
def Cg.ok (g : Cg) : Prop := g.b.ok ∧ 1 ≤ g.r ∧ g.r ≤ 3 ∧ 1 ≤ g.t ∧ g.t ≤ 2 ∧ 1 ≤ g.th ∧ g.th ≤ 40
def stF (kp hn : Addr) : List (Str × V) := [("kept", .ref kp), ("hands", .ref hn)]
def SetAt (a : Ad) (H : Hp) (s : Addr) (g : Cg) : Prop := g.ok ∧ ∃ dx kp hn, H s = some (.ins a.CT dx (stF kp hn)) ∧ H hn = some (.tup [.int g.r, .int g.t, .int 0, .int g.th]) ∧ BookAt a H kp g.b
theorem SetAt.same {a : Ad} {H H' : Hp} {p : Addr} {g : Cg} (s : Same H H') (h : SetAt a H p g) : SetAt a H' p g :=
  let ⟨k, dx, kp, hn, h1, h2, h3⟩ := h
  ⟨k, dx, kp, hn, s _ _ h1, s _ _ h2, h3.same s⟩
def kwS : List (Str × V) := [("still", .str "outside"), ("read", .str "behind"), ("sleep", .str "none")]
theorem ins_ty {K : PySem.W.Frag} {C a dx : Addr} {H : Hp} {fs : List (Str × V)} (i : C8.InsC K C) (h : H a = some (.ins C dx fs)) : TyX K H (.ref a) (.ref C) := .base (.ins h i.cl i.ha i.hn i.htk i.hm)
/-- what the walks ask of the text -/
structure TX (w : World) (K : PySem.W.Frag) (mg : Str → Option Value) (a : Ad) : Prop where
  clS : Cls K a.CS
  clT : Cls K a.CT
  clW : Cls K a.CW
  clN : Cls K a.CN
  nSown : NoAttr K a.CS "own"
  nSorder : NoAttr K a.CS "order"
  nTkept : NoAttr K a.CT "kept"
  nThands : NoAttr K a.CT "hands"
  nWsetting : NoAttr K a.CW "setting"
  nWown : NoAttr K a.CW "own"
  nWspot : NoAttr K a.CW "spot"
  nWreader_rows : NoAttr K a.CW "reader_rows"
  nWtaker_rows : NoAttr K a.CW "taker_rows"
  nWfreed : NoAttr K a.CW "freed"
  nWbad : NoAttr K a.CW "bad"
  nNsetting : NoAttr K a.CN "setting"
  nNdone : NoAttr K a.CN "done"
  nNstates : NoAttr K a.CN "states"
  words : ∃ u, Con K a.CS "WORDS" (.ref a.tW) u
  way : ∃ u, Con K a.CS "WAY" (.str "still") u
  tW : KTup K a.tW words4
  t2 : KTup K a.t2 (vals .still)
  t3 : KTup K a.t3 (vals .read)
  t4 : KTup K a.t4 (vals .sleep)
  o2 : KDct K w a.oa "still" (.ref a.t2)
  o3 : KDct K w a.oa "read" (.ref a.t3)
  o4 : KDct K w a.oa "sleep" (.ref a.t4)
  insS : C8.InsC K a.CS
  insT : C8.InsC K a.CT
  kitSE : PySem.W.kitOne K (.ref a.CS) (.ref a.CE) = some false
  kitSL : PySem.W.kitOne K (.ref a.CS) (.ref a.CL) = some false
  g_ORDERS : ∃ u, mg "ORDERS" = some u ∧ RelV (.ref a.oa) u
  g_EpochBook : ∃ u, mg "EpochBook" = some u ∧ RelV (.ref a.CE) u
  g_LookBook : ∃ u, mg "LookBook" = some u ∧ RelV (.ref a.CL) u
  g_StillBook : ∃ u, mg "StillBook" = some u ∧ RelV (.ref a.CS) u
  g_Setting : ∃ u, mg "Setting" = some u ∧ RelV (.ref a.CT) u
  g_MOST_COUNTS : ∃ u, mg "MOST_COUNTS" = some u ∧ RelV (.int 4) u
  g_MOST_READERS : ∃ u, mg "MOST_READERS" = some u ∧ RelV (.int 3) u
  g_MOST_TAKERS : ∃ u, mg "MOST_TAKERS" = some u ∧ RelV (.int 2) u
  g_MOST_THINGS : ∃ u, mg "MOST_THINGS" = some u ∧ RelV (.int 40) u
  n_len : mg "len" = none
  n_isinstance : mg "isinstance" = none
  n_max : mg "max" = none
  n_int : mg "int" = none
  n_list : mg "list" = none
  n_tuple : mg "tuple" = none
  n_sorted : mg "sorted" = none
  n_range : mg "range" = none
  n_bool : mg "bool" = none
  n_str : mg "str" = none
  n_enumerate : mg "enumerate" = none
end Ep
namespace Ep
open PySem PySem.Spec L2 EpR
open PyProof.Rows hiding St
/-! what the head says, by addresses -/
def fnA (K : PySem.W.Frag) (a : Addr) : He.FnW := match K.lookup a with
  | some ⟨_, _, .func d, _⟩ => some (d.name, d.qualname, d.params, d.body, d.scope, d.globals, d.closure, d.builtins)
  | _ => none
/-- the rest of it: its code, its defaults -/
def fnB (K : PySem.W.Frag) (a : Addr) (q : Str) (dvs : List V) (kws : List (Str × V)) : Bool := match K.lookup a with
  | some ⟨_, _, .func d, _⟩ => PySem.W.codeIn K d.code q && (He.dflB K d.defaults dvs && He.kwdB K d.kwdefaults kws)
  | _ => false
theorem fn_at {K : PySem.W.Frag} {a : Addr} {x q : Str} {params : Arguments} {body : List Stmt} {sc : Scope} {cl : List (Str × Addr)} {dvs : List V} {kws : List (Str × V)} (e : fnA K a = some (x, q, params, FuncBody.stmts body, sc, mainGlobals, cl, builtinsNs)) (c : fnB K a q dvs kws = true) :
    ∃ (oc : Value) (od : Option Addr) (dV kV doc pm : Value) (an : Option Addr) (cdv ct : Value) (osl : Array (Option Value)), K.lookup a = some ⟨oc, od, .func (PySem.W.fnX x q params body sc cl dV kV doc pm an cdv ct), osl⟩ ∧ PySem.W.codeIn K cdv q = true ∧ DflV K dV dvs ∧ KwdV K kV kws := by
  unfold fnA at e
  unfold fnB at c
  cases z : K.lookup a with
  | none =>
    rw [z] at c
    cases c
  | some o =>
    obtain ⟨oc, od, dt, osl⟩ := o
    rw [z] at c e
    cases dt with
    | func d =>
      obtain ⟨m1, m2, m3, m4, m5, m6, m7, m8, m9, m10, m11, m12, m13, m14, m15⟩ := d
      have e' : (some (m1, m2, m3, m4, m5, m6, m7, m15) : He.FnW) = some (x, q, params, FuncBody.stmts body, sc, mainGlobals, cl, builtinsNs) := e
      simp only [Option.some.injEq, Prod.mk.injEq] at e'
      obtain ⟨rfl, rfl, rfl, rfl, rfl, rfl, rfl, rfl⟩ := e'
      have c' : (PySem.W.codeIn K m13 m2 && (He.dflB K m8 dvs && He.kwdB K m9 kws)) = true := c
      obtain ⟨k1, k2⟩ := He.ba c'
      obtain ⟨k3, k4⟩ := He.ba k2
      exact ⟨oc, od, m8, m9, m10, m11, m12, m13, m14, osl, rfl, k1, He.dflB_ok k3, He.kwdB_ok k4⟩
    | _ => cases c
theorem funP_at {K : PySem.W.Frag} {a : Addr} {x q : Str} {st : Stmt} {dvs : List V} {kws : List (Str × V)} (e : fnA K a = some (x, q, defArgs st, FuncBody.stmts (defBody st), defScope st, mainGlobals, [], builtinsNs)) (c : fnB K a q dvs kws = true) (kp : PySem.W.keepIn K (.ref a) = true) : ∃ fd, FunP K x q st dvs kws a fd := by
  obtain ⟨oc, od, dV, kV, doc, pm, an, cdv, ct, osl, h1, h2, h3, h4⟩ := fn_at e c
  exact ⟨_, ⟨oc, od, dV, kV, doc, pm, an, cdv, ct, osl, rfl, h1, h2, h3, h4⟩, kp⟩
def codeB (P : Program) (K : PySem.W.Frag) (f cd cc D : Addr) : Bool := (match K.lookup f with
  | some ⟨_, _, .func d, _⟩ => decide (d.code = .ref cd)
  | _ => false) && ((match K.lookup cd with
  | some ⟨_, _, .fields vs, _⟩ => (match vs[2]? with
    | some (Value.str file _) => (P.main.file : Str) == file
    | _ => false)
  | _ => false) && (match K.lookup cc with
  | some ⟨_, _, .cell (some (.ref b)), _⟩ => decide (b = D)
  | _ => false))
end Ep
namespace Ep
open PySem PySem.Spec L2 EpR
open PyProof.Rows hiding St
def clsB (K : PySem.W.Frag) (C : Addr) : Bool := (PySem.W.plainGet K C Str.empty && PySem.W.hasDictIn K C) && (PySem.W.plainOver K C && He.eqO (PySem.W.findIn K (.ref C) "__setattr__") (some (some (.builtin "object.__setattr__"))))
theorem cls_at {K : PySem.W.Frag} {C : Addr} (h : clsB K C = true) : Cls K C :=
  let ⟨h1, h2⟩ := He.ba h
  ⟨(He.ba h1).1, (He.ba h1).2, (He.ba h2).1, He.eqO_ok (He.ba h2).2⟩
def conA (K : PySem.W.Frag) (C : Addr) (f : Str) (v : V) : Bool := match PySem.W.findIn K (.ref C) f with
  | some (some u) => He.relB v u && (He.eqO (PySem.W.specialIn K u "__get__") (some none) && !PySem.W.copiedNames.contains f)
  | _ => false
theorem conA_ok {K : PySem.W.Frag} {C : Addr} {f : Str} {v : V} (h : conA K C f v = true) : ∃ u, Con K C f v u := by
  unfold conA at h
  split at h
  · rename_i u e
    obtain ⟨h1, h2⟩ := He.ba h
    obtain ⟨h3, h4⟩ := He.ba h2
    exact ⟨u, e, He.relB_ok h1, He.eqO_ok h3, by simpa using h4⟩
  · cases h
def ktupB (K : PySem.W.Frag) (a : Addr) (xs : List V) : Bool := match K.lookup a with
  | some o => decide (o.cls = .type "tuple") && (match o.data with
    | .seq its _ => decide (its.size ≤ sizeLine) && He.relAll xs its.toList
    | _ => false)
  | none => false
theorem ktup_ok {K : PySem.W.Frag} {a : Addr} {xs : List V} (h : ktupB K a xs = true) : KTup K a xs := by
  unfold ktupB at h
  split at h
  · rename_i o e
    obtain ⟨h1, h2⟩ := He.ba h
    split at h2
    · rename_i its n e2
      obtain ⟨h3, h4⟩ := He.ba h2
      exact ⟨o, its, n, e, of_decide_eq_true h1, e2, of_decide_eq_true h3, He.relAll_ok h4⟩
    · cases h2
  · cases h
theorem ord_ok {K : PySem.W.Frag} {w : World} {a t : Addr} {x : Str} (d : ∃ es n, KDict K w a es n) (h : PySem.W.nsIn K a x = some (some (.ref t))) : KDct K w a x (.ref t) :=
  let ⟨es, n, k⟩ := d
  ⟨es, n, .ref t, k.at_, k.lit, h, rfl⟩
def insB (K : PySem.W.Frag) (C : Addr) : Bool := (He.eqO (PySem.W.findIn K (.ref C) "__class__") (some (some (.builtin "object.__class__"))) && He.eqO (PySem.W.specialIn K (.builtin "object.__class__") "__get__") (some (some (.builtin "getset_descriptor.__get__")))) &&
  (decide (PySem.W.takesIn K (.builtin "object.__class__") = some true) && decide (PySem.W.mroIn K C (.type "object") = some true))
theorem ins_at {K : PySem.W.Frag} {C : Addr} (c : Cls K C) (h : insB K C = true) : C8.InsC K C :=
  let ⟨h1, h2⟩ := He.ba h
  ⟨c, He.eqO_ok (He.ba h1).1, He.eqO_ok (He.ba h1).2, of_decide_eq_true (He.ba h2).1, of_decide_eq_true (He.ba h2).2, by unfold PySem.W.kitOne; simp⟩
theorem gi_ok {mg : Str → Option Value} {x : Str} {i : Int} (h : ∃ t, mg x = some (.int i t)) : ∃ u, mg x = some u ∧ RelV (.int i) u :=
  let ⟨t, e⟩ := h
  ⟨_, e, t, rfl⟩
def supB (K : PySem.W.Frag) (D f2 : Addr) : Bool := match PySem.W.clsIn K D with
  | some cd => He.eqO (PySem.W.alongIn K "__init__" ((cd.mro.dropWhile (· != .ref D)).drop 1)) (some (some (.ref f2)))
  | none => false
theorem sup_ok {K : PySem.W.Frag} {D f2 : Addr} (h : supB K D f2 = true) : ∃ cdD : ClassData, PySem.W.clsIn K D = some cdD ∧ PySem.W.alongIn K "__init__" ((cdD.mro.dropWhile (· != .ref D)).drop 1) = some (some (.ref f2)) := by
  unfold supB at h
  split at h
  · rename_i cd e
    exact ⟨cd, e, He.eqO_ok h⟩
  · cases h
def propB (K : PySem.W.Frag) (p g : Addr) : Bool := match PySem.W.recIn K p "property" with
  | some (.ref b :: _) => decide (b = g)
  | _ => false
theorem prop_ok {K : PySem.W.Frag} {p g : Addr} (h : propB K p g = true) : ∃ rest, PySem.W.recIn K p "property" = some (.ref g :: rest) := by
  unfold propB at h
  split at h
  · rename_i b rest e
    have eb : b = g := of_decide_eq_true h
    subst eb
    exact ⟨rest, e⟩
  · cases h
end Ep
namespace Ep
open PySem PySem.Spec L2 EpR
open PyProof.Rows hiding St
/-! the module's names, seen at once -/
abbrev Ent : Type := Option Str × Option (Sum Addr Int)
def entOf (e : DictEntry) : Ent := (match e.key with
  | .str x _ => some x
  | _ => none, match e.val with
  | .ref a => some (.inl a)
  | .int i _ => some (.inr i)
  | _ => none)
def tabAt (K : PySem.W.Frag) (a : Addr) : Option (List Ent) := match K.lookup a with
  | some o => (match o.data with
    | .dict es _ => some (es.toList.map entOf)
    | _ => none)
  | none => none
def isN (x : Str) (p : Ent) : Bool := match p.1 with
  | some y => y == x
  | none => false
theorem ent_find (x : Str) : ∀ l : List DictEntry, (l.map entOf).find? (isN x) = (l.find? (·.key.isStr x)).map entOf
  | [] => rfl
  | e :: l => by
    have h : isN x (entOf e) = e.key.isStr x := by
      unfold entOf isN
      cases e.key <;> rfl
    rw [List.map_cons, List.find?_cons, List.find?_cons, h]
    cases e.key.isStr x with
    | true => rfl
    | false => exact ent_find x l
theorem ent_keys : ∀ l : List DictEntry, (l.map entOf).all (·.1.isSome) = true → l.any (·.refKey) = false
  | [], _ => rfl
  | e :: l, h => by
    rw [List.map_cons, List.all_cons] at h
    obtain ⟨h1, h2⟩ := He.ba h
    rw [List.any_cons, ent_keys l h2, Bool.or_false]
    unfold entOf at h1
    unfold DictEntry.refKey
    revert h1
    cases e.key <;> intro h1 <;> first | rfl | (cases h1)
theorem tab_look {K : PySem.W.Frag} {a : Addr} {L : List Ent} (h : tabAt K a = some L) (x : Str) :
    (∀ b, L.find? (isN x) = some (some x, some (.inl b)) → PySem.W.nsIn K a x = some (some (.ref b))) ∧ (∀ i, L.find? (isN x) = some (some x, some (.inr i)) → ∃ t, PySem.W.nsIn K a x = some (some (.int i t))) ∧
      (L.find? (isN x) = none → L.all (·.1.isSome) = true → PySem.W.nsIn K a x = some none) := by
  unfold tabAt at h
  cases q : K.lookup a with
  | none => rw [q] at h; cases h
  | some o =>
    rw [q] at h
    obtain ⟨oc, od, dt, sl⟩ := o
    cases dt with
    | dict es n =>
      have e : es.toList.map entOf = L := Option.some.inj h
      subst e
      rw [ent_find]
      unfold PySem.W.nsIn
      rw [q]
      dsimp only
      cases z : es.toList.find? (·.key.isStr x) with
      | none =>
        refine ⟨fun b w => (nomatch w), fun i w => (nomatch w), fun _ hk => ?_⟩
        rw [ent_keys _ hk]
        rfl
      | some e =>
        have e1 : ∀ {v}, some (entOf e) = some v → (match e.val with
            | .ref a => some (Sum.inl a : Sum Addr Int)
            | .int i _ => some (.inr i)
            | _ => none) = v.2 := fun w => by
          cases w
          rfl
        refine ⟨fun b w => ?_, fun i w => ?_, fun w => (nomatch w)⟩
        · have e2 := e1 w
          dsimp only
          revert e2
          cases e.val <;> intro e2 <;> first | (cases e2; rfl) | (cases e2)
        · have e2 := e1 w
          dsimp only
          revert e2
          cases e.val <;> intro e2 <;> first | (cases e2; exact ⟨_, rfl⟩) | (cases e2)
    | _ => cases h
end Ep
namespace Ep
open PySem PySem.Spec L2 EpR
open PyProof.Rows hiding St
/-! attributes of a class, by the tables of the classes above it -/
def mroA (K : PySem.W.Frag) (C : Addr) : Option (Addr × List Value) := (PySem.W.clsIn K C).map fun cd => (cd.ns, cd.mro)
theorem mroA_at {K : PySem.W.Frag} {C ns : Addr} {l : List Value} (h : mroA K C = some (ns, l)) : ∃ (oc : Value) (od : Option Addr) (cd : ClassData) (sl : Array (Option Value)), K.lookup C = some ⟨oc, od, .cls cd, sl⟩ ∧ cd.ns = ns ∧ cd.mro = l := by
  unfold mroA at h
  cases z : K.lookup C with
  | none => simp [PySem.W.clsIn, z] at h
  | some o =>
    obtain ⟨oc, od, dt, sl⟩ := o
    cases dt with
    | cls cd =>
      simp only [PySem.W.clsIn, z, Option.map_some, Option.some.injEq, Prod.mk.injEq] at h
      exact ⟨oc, od, cd, sl, rfl, h.1, h.2⟩
    | _ => simp [PySem.W.clsIn, z] at h
theorem find_mro {K : PySem.W.Frag} {C ns : Addr} {l : List Value} {x : Str} {r : Option (Option Value)} (h : mroA K C = some (ns, l)) (e : PySem.W.alongIn K x l = r) : PySem.W.findIn K (.ref C) x = r := by
  obtain ⟨oc, od, cd, sl, h1, h2, h3⟩ := mroA_at h
  subst h3
  unfold PySem.W.findIn
  simp only [h1]
  exact e
theorem own_mro {K : PySem.W.Frag} {C ns : Addr} {l : List Value} {x : Str} (h : mroA K C = some (ns, l)) : PySem.W.ownIn K x (.ref C) = PySem.W.nsIn K ns x := by
  obtain ⟨oc, od, cd, sl, h1, h2, h3⟩ := mroA_at h
  unfold PySem.W.ownIn
  simp only [h1, h2]
theorem along_hit {K : PySem.W.Frag} {C ns : Addr} {l r : List Value} {x : Str} {v : Value} (h : mroA K C = some (ns, l)) (e : PySem.W.nsIn K ns x = some (some v)) : PySem.W.alongIn K x (.ref C :: r) = some (some v) := by
  unfold PySem.W.alongIn
  rw [own_mro h, e]
theorem along_miss {K : PySem.W.Frag} {C ns : Addr} {l r : List Value} {x : Str} {u : Option (Option Value)} (h : mroA K C = some (ns, l)) (e : PySem.W.nsIn K ns x = some none) (k : PySem.W.alongIn K x r = u) : PySem.W.alongIn K x (.ref C :: r) = u := by
  unfold PySem.W.alongIn
  rw [own_mro h, e]
  exact k
theorem along_obj {K : PySem.W.Frag} {x : Str} {r : Option Value} (e : fastBuiltinOwn "object" x = r) : PySem.W.alongIn K x [.type "object"] = some r := by
  unfold PySem.W.alongIn PySem.W.ownIn
  dsimp only
  rw [e]
  cases r <;> rfl
theorem cls_by {K : PySem.W.Frag} {C : Addr} (h1 : PySem.W.findIn K (.ref C) "__getattribute__" = some (some (.builtin "object.__getattribute__"))) (h2 : PySem.W.findIn K (.ref C) "__getattr__" = some none) (h3 : PySem.W.findIn K (.ref C) "__setattr__" = some (some (.builtin "object.__setattr__")))
    (h4 : (PySem.W.hasDictIn K C && PySem.W.plainOver K C) = true) : Cls K C := by
  obtain ⟨h5, h6⟩ := He.ba h4
  refine ⟨?_, h5, h6, h3⟩
  unfold PySem.W.plainGet
  rw [h1, h2]
  decide +kernel
theorem ins_by {K : PySem.W.Frag} {C : Addr} (c : Cls K C) (h1 : PySem.W.findIn K (.ref C) "__class__" = some (some (.builtin "object.__class__"))) (h2 : PySem.W.mroIn K C (.type "object") = some true)
    (h3 : PySem.W.specialIn K (.builtin "object.__class__") "__get__" = some (some (.builtin "getset_descriptor.__get__"))) (h4 : PySem.W.takesIn K (.builtin "object.__class__") = some true) : C8.InsC K C :=
  ⟨c, h1, h3, h4, h2, by unfold PySem.W.kitOne; simp⟩
theorem spc {K : PySem.W.Frag} : PySem.W.specialIn K (.builtin "object.__class__") "__get__" = some (some (.builtin "getset_descriptor.__get__")) := by kernel_rfl
theorem tkc {K : PySem.W.Frag} : PySem.W.takesIn K (.builtin "object.__class__") = some true := by kernel_rfl
end Ep
namespace Ep
open PySem PySem.Spec L2 EpR
open PyProof.Rows hiding St
/-! a def looked at over a small part of the heap -/
theorem fr_mem {g : Addr → Option Obj} {b : Addr} {o : Obj} : ∀ {as : List Addr}, (He.frG g as).lookup b = some o → b ∈ as
  | [], e => nomatch (show (none : Option Obj) = some o from e)
  | c :: r, e => by
    unfold He.frG at e
    rw [List.filterMap_cons] at e
    cases hc : g c with
    | none =>
      rw [hc] at e
      exact List.mem_cons_of_mem _ (fr_mem (as := r) e)
    | some oc =>
      rw [hc] at e
      have e2 : (match b == c with | true => some oc | false => (He.frG g r).lookup b) = some o := e
      cases q : (b == c) with
      | true => exact List.mem_cons.mpr (.inl (beq_iff_eq.mp q))
      | false =>
        rw [q] at e2
        exact List.mem_cons_of_mem _ (fr_mem (as := r) e2)
theorem fr_get {g : Addr → Option Obj} {b : Addr} {o : Obj} (h : g b = some o) : ∀ {as : List Addr}, b ∈ as → (He.frG g as).lookup b = some o
  | c :: r, m => by
    unfold He.frG
    rw [List.filterMap_cons]
    by_cases z : b = c
    · subst z
      rw [h]
      show (match b == b with | true => some o | false => (He.frG g r).lookup b) = some o
      rw [show (b == b) = true from beq_self_eq_true b]
    · have m2 : b ∈ r := by
        rcases List.mem_cons.mp m with e | e
        · exact absurd e z
        · exact e
      have ih := fr_get h m2
      cases hc : g c with
      | none => exact ih
      | some oc =>
        show (match b == c with | true => some oc | false => (He.frG g r).lookup b) = some o
        rw [show (b == c) = false from beq_eq_false_iff_ne.mpr z]
        exact ih
def Part (k K : PySem.W.Frag) : Prop := ∀ b o, k.lookup b = some o → K.lookup b = some o
theorem part_of {g : Addr → Option Obj} {as bs : List Addr} (h : ∀ b ∈ as, b ∈ bs) : Part (He.frG g as) (He.frG g bs) := fun b o e => fr_get (He.frG_at as e) (h b (fr_mem e))
theorem Part.code {k K : PySem.W.Frag} (m : Part k K) {cd : Value} {q : Str} (h : PySem.W.codeIn k cd q = true) : PySem.W.codeIn K cd q = true := by
  unfold PySem.W.codeIn at h ⊢
  cases cd with
  | ref c =>
    dsimp only at h ⊢
    cases z : k.lookup c with
    | none => simp [z] at h
    | some o =>
      rw [z] at h
      rw [m c o z]
      exact h
  | _ => cases h
/-- what is seen of a def of no defaults: its address, its code's -/
structure SmallFn (K : PySem.W.Frag) (a : Addr) (q : Str) (v : He.FnW) : Prop where
  ex : ∃ k : PySem.W.Frag, Part k K ∧ fnA k a = v ∧ fnB k a q [] [] = true ∧ PySem.W.isFn k (.ref a) = true
theorem SmallFn.obj {K : PySem.W.Frag} {a : Addr} {q x : Str} {params : Arguments} {body : List Stmt} {sc : Scope} {cl : List (Str × Addr)} (S : SmallFn K a q (some (x, q, params, FuncBody.stmts body, sc, mainGlobals, cl, builtinsNs))) :
    ∃ (od : Option Addr) (kV doc pm : Value) (an : Option Addr) (cdv ct : Value) (osl : Array (Option Value)), K.lookup a = some ⟨.type "function", od, .func (PySem.W.fnX x q params body sc cl .none kV doc pm an cdv ct), osl⟩ ∧ PySem.W.codeIn K cdv q = true := by
  obtain ⟨k, m, e, c, i⟩ := S.ex
  obtain ⟨oc, od, dV, kV, doc, pm, an, cdv, ct, osl, h1, h2, h3, h4⟩ := fn_at e c
  have ed : dV = .none := by
    rcases h3 with ⟨_, h⟩ | ⟨h, _⟩
    · exact h
    · exact absurd rfl h
  subst ed
  have et : oc = .type "function" := by
    unfold PySem.W.isFn at i
    have i2 : PySem.W.typeIn k (.ref a) = some (.type "function") := beq_iff_eq.mp i
    have i3 : (k.lookup a).map (·.cls) = some (.type "function") := i2
    rw [h1] at i3
    exact Option.some.inj i3
  subst et
  exact ⟨od, kV, doc, pm, an, cdv, ct, osl, m _ _ h1, m.code h2⟩
theorem SmallFn.funP {K : PySem.W.Frag} {a : Addr} {x q : Str} {st : Stmt} (S : SmallFn K a q (some (x, q, defArgs st, FuncBody.stmts (defBody st), defScope st, mainGlobals, [], builtinsNs))) :
    (∃ fd, FunP K x q st [] [] a fd) ∧ PySem.W.keepIn K (.ref a) = true ∧ PySem.W.isFn K (.ref a) = true ∧ PySem.W.fnIn K a = true := by
  obtain ⟨od, kV, doc, pm, an, cdv, ct, osl, h1, h2⟩ := S.obj
  have kp : PySem.W.keepIn K (.ref a) = true := by
    unfold PySem.W.keepIn
    simp only [h1]
  refine ⟨⟨_, ⟨_, od, .none, kV, doc, pm, an, cdv, ct, osl, rfl, h1, h2, .inl ⟨rfl, rfl⟩, .inl rfl⟩, kp⟩, kp, ?_, ?_⟩
  · unfold PySem.W.isFn
    refine beq_iff_eq.mpr ?_
    show (K.lookup a).map (·.cls) = some (.type "function")
    rw [h1]
    rfl
  · unfold PySem.W.fnIn
    rw [h1]
end Ep
namespace Ep
open PySem PySem.Spec L2 EpR
open PyProof.Rows hiding St
abbrev PR : Program := PySem.Challenge.pw_epochrooms_k49_whole_safe_still_points_h
def adr : Ad := ⟨723, 1052, 1155, 1384, 504, 605, 616, 176, 185, 186, 187⟩
def lits : List Addr := [3, 2, 176, 185, 186, 187, 723, 1052, 1155, 1384, 316, 504, 605, 722, 1051, 1154, 1383, 315, 503, 604, 175, 174, 168, 167, 194, 193, 201, 200, 206, 205, 732, 731, 739, 738, 753, 752, 1063, 1062, 1070, 1069] ++ [1166, 1165, 1173, 1172, 1180, 1179, 1187, 1186, 1194, 1193, 1201, 1200, 1208, 1207, 1395, 1394, 1402, 1401, 1409, 1408, 1416, 1415, 1428, 1427, 1435, 1434, 1442, 1441, 1447, 1446, 1454, 1453, 235, 234, 250, 249, 278, 277, 285, 284] ++ [228, 227, 652, 651, 1084, 1083, 1091, 1090, 1105, 1104, 1112, 1111, 1117, 1116, 1124, 1123, 1131, 1130, 1138, 1137, 1145, 1144, 1152, 1151, 1230, 1229, 1237, 1236, 1265, 1264, 1003, 1002, 995, 996, 243, 242, 241, 1018, 1017, 1016] ++ [1026, 1025, 1024, 1042, 1041, 1040, 1310, 1309, 1308, 625, 624, 617, 611, 616]
def fc0 : List (PySem.W.Frag → Bool) := [fun K => fnB K 1003 "Setting.__init__" [.int 1, .int 1, .int 0] [("things", .int 3)],
  fun K => PySem.W.keepIn K (.ref 1003),
  fun K => fnB K 625 "StillBook.__init__" [] kwS,
  fun K => codeB PR K 625 624 611 723,
  fun K => PySem.W.hasDictIn K 723 && PySem.W.plainOver K 723,
  fun K => PySem.W.hasDictIn K 1052 && PySem.W.plainOver K 1052,
  fun K => PySem.W.hasDictIn K 1155 && PySem.W.plainOver K 1155,
  fun K => PySem.W.hasDictIn K 1384 && PySem.W.plainOver K 1384,
  fun K => conA K 723 "WORDS" (.ref 616),
  fun K => conA K 723 "WAY" (.str "still")]
def fc1 : List (PySem.W.Frag → Bool) := [fun K => ktupB K 616 words4,
  fun K => ktupB K 185 (vals .still),
  fun K => ktupB K 186 (vals .read),
  fun K => ktupB K 187 (vals .sleep),
  fun K => He.eqO (PySem.W.nsIn K 176 "still") (some (some (.ref 185))),
  fun K => He.eqO (PySem.W.nsIn K 176 "read") (some (some (.ref 186))),
  fun K => He.eqO (PySem.W.nsIn K 176 "sleep") (some (some (.ref 187))),
  fun K => decide (PySem.W.mroIn K 723 (.type "object") = some true),
  fun K => decide (PySem.W.mroIn K 1052 (.type "object") = some true),
  fun K => decide (PySem.W.kitOne K (.ref 723) (.ref 504) = some false)]
def fc2 : List (PySem.W.Frag → Bool) := [fun K => decide (PySem.W.kitOne K (.ref 723) (.ref 605) = some false),
  fun K => supB K 723 228,
  fun K => decide (PySem.W.mroIn K 723 (.ref 723) = some true),
  fun K => He.eqO (PySem.W.nsIn K PySem.cStatics "thirdparty.any") (some none),
  fun K => decide (PySem.W.typeIn K (.ref 228) = some (.type "function")),
  fun K => PySem.W.makesIn K 723,
  fun K => PySem.W.isFn K (.ref 625),
  fun K => PySem.W.keepIn K (.ref 723),
  fun K => PySem.W.makesIn K 1052,
  fun K => PySem.W.isFn K (.ref 1003)]
def fc3 : List (PySem.W.Frag → Bool) := [fun K => PySem.W.keepIn K (.ref 1052),
  fun K => PySem.W.makesIn K 1155,
  fun K => PySem.W.keepIn K (.ref 1155),
  fun K => PySem.W.makesIn K 1384,
  fun K => PySem.W.keepIn K (.ref 1384),
  fun K => He.eqO (PySem.W.specialIn K (.ref 243) "__get__") (some (some (.builtin "property.__get__"))),
  fun K => decide (PySem.W.takesIn K (.ref 243) = some true),
  fun K => propB K 243 242,
  fun K => He.eqO (PySem.W.specialIn K (.ref 1018) "__get__") (some (some (.builtin "property.__get__"))),
  fun K => decide (PySem.W.takesIn K (.ref 1018) = some true)]
def fc4 : List (PySem.W.Frag → Bool) := [fun K => propB K 1018 1017,
  fun K => He.eqO (PySem.W.specialIn K (.ref 1026) "__get__") (some (some (.builtin "property.__get__"))),
  fun K => decide (PySem.W.takesIn K (.ref 1026) = some true),
  fun K => propB K 1026 1025,
  fun K => He.eqO (PySem.W.specialIn K (.ref 1042) "__get__") (some (some (.builtin "property.__get__"))),
  fun K => decide (PySem.W.takesIn K (.ref 1042) = some true),
  fun K => propB K 1042 1041,
  fun K => He.eqO (PySem.W.specialIn K (.ref 1310) "__get__") (some (some (.builtin "property.__get__"))),
  fun K => decide (PySem.W.takesIn K (.ref 1310) = some true),
  fun K => propB K 1310 1309]
def fc5 : List (PySem.W.Frag → Bool) := [fun K => PySem.W.noSeq K 723]
def fcs : List (PySem.W.Frag → Bool) := fc0 ++ fc1 ++ fc2 ++ fc3 ++ fc4 ++ fc5
def fl2 : List (Addr × He.FnW) := [(1003, some ("__init__", "Setting.__init__", defArgs (inClass (top 44) 0), FuncBody.stmts (defBody (inClass (top 44) 0)), defScope (inClass (top 44) 0), mainGlobals, [], builtinsNs)),
  (625, some ("__init__", "StillBook.__init__", defArgs (inClass (top 24) 2), FuncBody.stmts (defBody (inClass (top 24) 2)), defScope (inClass (top 24) 2), mainGlobals, [(("__class__" : Str), 611)], builtinsNs))]
def sm0 : List (Addr × Addr × Str × He.FnW) := [(175, 174, "is_whole", some ("is_whole", "is_whole", defArgs (top 11), FuncBody.stmts (defBody (top 11)), defScope (top 11), mainGlobals, [], builtinsNs)),
  (168, 167, "is_number", some ("is_number", "is_number", defArgs (top 10), FuncBody.stmts (defBody (top 10)), defScope (top 10), mainGlobals, [], builtinsNs)),
  (194, 193, "values_at", some ("values_at", "values_at", defArgs (top 17), FuncBody.stmts (defBody (top 17)), defScope (top 17), mainGlobals, [], builtinsNs)),
  (201, 200, "is_same", some ("is_same", "is_same", defArgs (top 18), FuncBody.stmts (defBody (top 18)), defScope (top 18), mainGlobals, [], builtinsNs)),
  (206, 205, "is_value", some ("is_value", "is_value", defArgs (top 19), FuncBody.stmts (defBody (top 19)), defScope (top 19), mainGlobals, [], builtinsNs)),
  (732, 731, "is_book", some ("is_book", "is_book", defArgs (top 25), FuncBody.stmts (defBody (top 25)), defScope (top 25), mainGlobals, [], builtinsNs)),
  (739, 738, "look_at_book", some ("look_at_book", "look_at_book", defArgs (top 26), FuncBody.stmts (defBody (top 26)), defScope (top 26), mainGlobals, [], builtinsNs)),
  (753, 752, "is_safe", some ("is_safe", "is_safe", defArgs (top 29), FuncBody.stmts (defBody (top 29)), defScope (top 29), mainGlobals, [], builtinsNs)),
  (1063, 1062, "look_at_setting", some ("look_at_setting", "look_at_setting", defArgs (top 45), FuncBody.stmts (defBody (top 45)), defScope (top 45), mainGlobals, [], builtinsNs)),
  (1070, 1069, "first_stills", some ("first_stills", "first_stills", defArgs (top 47), FuncBody.stmts (defBody (top 47)), defScope (top 47), mainGlobals, [], builtinsNs))]
def sm1 : List (Addr × Addr × Str × He.FnW) := [(1166, 1165, "is_unsafe", some ("is_unsafe", "is_unsafe", defArgs (top 50), FuncBody.stmts (defBody (top 50)), defScope (top 50), mainGlobals, [], builtinsNs)),
  (1173, 1172, "world_of", some ("world_of", "world_of", defArgs (top 51), FuncBody.stmts (defBody (top 51)), defScope (top 51), mainGlobals, [], builtinsNs)),
  (1180, 1179, "first_state", some ("first_state", "first_state", defArgs (top 52), FuncBody.stmts (defBody (top 52)), defScope (top 52), mainGlobals, [], builtinsNs)),
  (1187, 1186, "moves", some ("moves", "moves", defArgs (top 53), FuncBody.stmts (defBody (top 53)), defScope (top 53), mainGlobals, [], builtinsNs)),
  (1194, 1193, "has_form", some ("has_form", "has_form", defArgs (top 55), FuncBody.stmts (defBody (top 55)), defScope (top 55), mainGlobals, [], builtinsNs)),
  (1201, 1200, "is_possible", some ("is_possible", "is_possible", defArgs (top 56), FuncBody.stmts (defBody (top 56)), defScope (top 56), mainGlobals, [], builtinsNs)),
  (1208, 1207, "step", some ("step", "step", defArgs (top 57), FuncBody.stmts (defBody (top 57)), defScope (top 57), mainGlobals, [], builtinsNs)),
  (1395, 1394, "_law_pool", some ("_law_pool", "_law_pool", defArgs (top 63), FuncBody.stmts (defBody (top 63)), defScope (top 63), mainGlobals, [], builtinsNs)),
  (1402, 1401, "_law_take", some ("_law_take", "_law_take", defArgs (top 64), FuncBody.stmts (defBody (top 64)), defScope (top 64), mainGlobals, [], builtinsNs)),
  (1409, 1408, "_law_one", some ("_law_one", "_law_one", defArgs (top 65), FuncBody.stmts (defBody (top 65)), defScope (top 65), mainGlobals, [], builtinsNs))]
def sm2 : List (Addr × Addr × Str × He.FnW) := [(1416, 1415, "_law_switches", some ("_law_switches", "_law_switches", defArgs (top 66), FuncBody.stmts (defBody (top 66)), defScope (top 66), mainGlobals, [], builtinsNs)),
  (1428, 1427, "_law_book", some ("_law_book", "_law_book", defArgs (top 68), FuncBody.stmts (defBody (top 68)), defScope (top 68), mainGlobals, [], builtinsNs)),
  (1435, 1434, "_law_setting", some ("_law_setting", "_law_setting", defArgs (top 69), FuncBody.stmts (defBody (top 69)), defScope (top 69), mainGlobals, [], builtinsNs)),
  (1442, 1441, "_law_safe_own", some ("_law_safe_own", "_law_safe_own", defArgs (top 70), FuncBody.stmts (defBody (top 70)), defScope (top 70), mainGlobals, [], builtinsNs)),
  (1447, 1446, "_law_holds", some ("_law_holds", "_law_holds", defArgs (top 71), FuncBody.stmts (defBody (top 71)), defScope (top 71), mainGlobals, [], builtinsNs)),
  (1454, 1453, "law", some ("law", "law", defArgs (top 72), FuncBody.stmts (defBody (top 72)), defScope (top 72), mainGlobals, [], builtinsNs)),
  (235, 234, "Book.first_wrong", some ("first_wrong", "Book.first_wrong", defArgs (inClass (top 21) 3), FuncBody.stmts (defBody (inClass (top 21) 3)), defScope (inClass (top 21) 3), mainGlobals, [], builtinsNs)),
  (250, 249, "Book.look_at_word", some ("look_at_word", "Book.look_at_word", defArgs (inClass (top 21) 5), FuncBody.stmts (defBody (inClass (top 21) 5)), defScope (inClass (top 21) 5), mainGlobals, [], builtinsNs)),
  (278, 277, "Book.__getitem__", some ("__getitem__", "Book.__getitem__", defArgs (inClass (top 21) 9), FuncBody.stmts (defBody (inClass (top 21) 9)), defScope (inClass (top 21) 9), mainGlobals, [], builtinsNs)),
  (285, 284, "Book.__setitem__", some ("__setitem__", "Book.__setitem__", defArgs (inClass (top 21) 10), FuncBody.stmts (defBody (inClass (top 21) 10)), defScope (inClass (top 21) 10), mainGlobals, [], builtinsNs))]
def sm3 : List (Addr × Addr × Str × He.FnW) := [(228, 227, "Book.__init__", some ("__init__", "Book.__init__", defArgs (inClass (top 21) 2), FuncBody.stmts (defBody (inClass (top 21) 2)), defScope (inClass (top 21) 2), mainGlobals, [], builtinsNs)),
  (652, 651, "StillBook.twin", some ("twin", "StillBook.twin", defArgs (inClass (top 24) 5), FuncBody.stmts (defBody (inClass (top 24) 5)), defScope (inClass (top 24) 5), mainGlobals, [], builtinsNs)),
  (1084, 1083, "StillWorld.__init__", some ("__init__", "StillWorld.__init__", defArgs (inClass (top 48) 0), FuncBody.stmts (defBody (inClass (top 48) 0)), defScope (inClass (top 48) 0), mainGlobals, [], builtinsNs)),
  (1091, 1090, "StillWorld.state", some ("state", "StillWorld.state", defArgs (inClass (top 48) 1), FuncBody.stmts (defBody (inClass (top 48) 1)), defScope (inClass (top 48) 1), mainGlobals, [], builtinsNs)),
  (1105, 1104, "StillWorld.reader_deeds", some ("reader_deeds", "StillWorld.reader_deeds", defArgs (inClass (top 48) 3), FuncBody.stmts (defBody (inClass (top 48) 3)), defScope (inClass (top 48) 3), mainGlobals, [], builtinsNs)),
  (1112, 1111, "StillWorld.taker_deeds", some ("taker_deeds", "StillWorld.taker_deeds", defArgs (inClass (top 48) 4), FuncBody.stmts (defBody (inClass (top 48) 4)), defScope (inClass (top 48) 4), mainGlobals, [], builtinsNs)),
  (1117, 1116, "StillWorld.moves", some ("moves", "StillWorld.moves", defArgs (inClass (top 48) 5), FuncBody.stmts (defBody (inClass (top 48) 5)), defScope (inClass (top 48) 5), mainGlobals, [], builtinsNs)),
  (1124, 1123, "StillWorld.do", some ("do", "StillWorld.do", defArgs (inClass (top 48) 6), FuncBody.stmts (defBody (inClass (top 48) 6)), defScope (inClass (top 48) 6), mainGlobals, [], builtinsNs)),
  (1131, 1130, "StillWorld.reader_does", some ("reader_does", "StillWorld.reader_does", defArgs (inClass (top 48) 7), FuncBody.stmts (defBody (inClass (top 48) 7)), defScope (inClass (top 48) 7), mainGlobals, [], builtinsNs)),
  (1138, 1137, "StillWorld.noted", some ("noted", "StillWorld.noted", defArgs (inClass (top 48) 8), FuncBody.stmts (defBody (inClass (top 48) 8)), defScope (inClass (top 48) 8), mainGlobals, [], builtinsNs))]
def sm4 : List (Addr × Addr × Str × He.FnW) := [(1145, 1144, "StillWorld.looked", some ("looked", "StillWorld.looked", defArgs (inClass (top 48) 9), FuncBody.stmts (defBody (inClass (top 48) 9)), defScope (inClass (top 48) 9), mainGlobals, [], builtinsNs)),
  (1152, 1151, "StillWorld.taker_does", some ("taker_does", "StillWorld.taker_does", defArgs (inClass (top 48) 10), FuncBody.stmts (defBody (inClass (top 48) 10)), defScope (inClass (top 48) 10), mainGlobals, [], builtinsNs)),
  (1230, 1229, "Bench.__init__", some ("__init__", "Bench.__init__", defArgs (inClass (top 61) 0), FuncBody.stmts (defBody (inClass (top 61) 0)), defScope (inClass (top 61) 0), mainGlobals, [], builtinsNs)),
  (1237, 1236, "Bench.__call__", some ("__call__", "Bench.__call__", defArgs (inClass (top 61) 1), FuncBody.stmts (defBody (inClass (top 61) 1)), defScope (inClass (top 61) 1), mainGlobals, [], builtinsNs)),
  (1265, 1264, "Bench.moves", some ("moves", "Bench.moves", defArgs (inClass (top 61) 5), FuncBody.stmts (defBody (inClass (top 61) 5)), defScope (inClass (top 61) 5), mainGlobals, [], builtinsNs)),
  (242, 241, "Book.way", some ("way", "Book.way", defArgs (inClass (top 21) 4), FuncBody.stmts (defBody (inClass (top 21) 4)), defScope (inClass (top 21) 4), mainGlobals, [], builtinsNs)),
  (1017, 1016, "Setting.readers", some ("readers", "Setting.readers", defArgs (inClass (top 44) 2), FuncBody.stmts (defBody (inClass (top 44) 2)), defScope (inClass (top 44) 2), mainGlobals, [], builtinsNs)),
  (1025, 1024, "Setting.takers", some ("takers", "Setting.takers", defArgs (inClass (top 44) 3), FuncBody.stmts (defBody (inClass (top 44) 3)), defScope (inClass (top 44) 3), mainGlobals, [], builtinsNs)),
  (1041, 1040, "Setting.things", some ("things", "Setting.things", defArgs (inClass (top 44) 5), FuncBody.stmts (defBody (inClass (top 44) 5)), defScope (inClass (top 44) 5), mainGlobals, [], builtinsNs)),
  (1309, 1308, "Bench.unsafe", some ("unsafe", "Bench.unsafe", defArgs (inClass (top 61) 11), FuncBody.stmts (defBody (inClass (top 61) 11)), defScope (inClass (top 61) 11), mainGlobals, [], builtinsNs))]
def fls : List (Addr × Addr × Str × He.FnW) := sm0 ++ sm1 ++ sm2 ++ sm3 ++ sm4
def oks : List Str := ["check", "fetch", "mark", "test", "step", "told", "look", "chain", "still", "read", "sleep"]
def oAd : Addr := 176
def gl0 : List Ent := [(some "__name__", none), (some "__doc__", none), (some "__package__", none), (some "__loader__", none), (some "__spec__", none), (some "__annotations__", some (.inl 6)), (some "__builtins__", some (.inl 4)), (some "__file__", none), (some "__cached__", none), (some "_wall", some (.inl 21)), (some "RoomsError", some (.inl 31)), (some "NoSwitch", some (.inl 53)), (some "NoValue", some (.inl 74)), (some "NoBook", some (.inl 95)), (some "NoSetting", some (.inl 116))]
def gl1 : List Ent := [(some "NoMove", some (.inl 137)), (some "NoHand", some (.inl 158)), (some "is_number", some (.inl 168)), (some "is_whole", some (.inl 175)), (some "ORDERS", some (.inl 176)), (some "LEAST_EPOCHS", some (.inr 2)), (some "MOST_EPOCHS", some (.inr 6)), (some "MOST_COUNTS", some (.inr 4)), (some "values_at", some (.inl 194)), (some "is_same", some (.inl 201)), (some "is_value", some (.inl 206)), (some "care", some (.inl 213)), (some "Book", some (.inl 316)), (some "EpochBook", some (.inl 504)), (some "LookBook", some (.inl 605))]
def gl2 : List Ent := [(some "StillBook", some (.inl 723)), (some "is_book", some (.inl 732)), (some "look_at_book", some (.inl 739)), (some "least_needed", some (.inl 746)), (some "is_safe", some (.inl 753)), (some "READER_DEEDS", some (.inl 754)), (some "TAKER_DEEDS", some (.inl 761)), (some "STEPPER_DEEDS", some (.inl 766)), (some "first_epochs", some (.inl 780)), (some "EpochWorld", some (.inl 898)), (some "first_looks", some (.inl 909)), (some "LookWorld", some (.inl 983)), (some "MOST_READERS", some (.inr 3)), (some "MOST_TAKERS", some (.inr 2)), (some "MOST_STEPPERS", some (.inr 7))]
def gl3 : List Ent := [(some "MOST_THINGS", some (.inr 40)), (some "Setting", some (.inl 1052)), (some "look_at_setting", some (.inl 1063)), (some "first_stills", some (.inl 1070)), (some "StillWorld", some (.inl 1155)), (some "is_unsafe", some (.inl 1166)), (some "world_of", some (.inl 1173)), (some "first_state", some (.inl 1180)), (some "moves", some (.inl 1187)), (some "moves_rules", some (.inl 1187)), (some "has_form", some (.inl 1194)), (some "is_possible", some (.inl 1201)), (some "step", some (.inl 1208)), (some "KINDS", some (.inl 1209)), (some "hand_of", some (.inl 1216))]
def gl4 : List Ent := [(some "Bench", some (.inl 1384)), (some "_law_pool", some (.inl 1395)), (some "_law_take", some (.inl 1402)), (some "_law_one", some (.inl 1409)), (some "_law_switches", some (.inl 1416)), (some "_law_choices", some (.inl 1421)), (some "_law_book", some (.inl 1428)), (some "_law_setting", some (.inl 1435)), (some "_law_safe_own", some (.inl 1442)), (some "_law_holds", some (.inl 1447)), (some "law", some (.inl 1454))]
def glL : List Ent := gl0 ++ gl1 ++ gl2 ++ gl3 ++ gl4
def tbStillBook : List Ent := [(some "__module__", none), (some "__firstlineno__", some (.inr 258)), (some "WORDS", some (.inl 616)), (some "WAY", none), (some "__init__", some (.inl 625)), (some "careful", some (.inl 634)), (some "hasty", some (.inl 644)), (some "twin", some (.inl 652)), (some "counts", some (.inl 669)), (some "still", some (.inl 686)), (some "read", some (.inl 703)), (some "sleep", some (.inl 720)), (some "__static_attributes__", some (.inl 721)), (some "__doc__", none)]
def mrStillBook : Addr × List Value := (722, [.ref 723, .ref 316, .type "object"])
def tbBook : List Ent := [(some "__module__", none), (some "__firstlineno__", some (.inr 70)), (some "WORDS", some (.inl 221)), (some "WAY", none), (some "__init__", some (.inl 228)), (some "first_wrong", some (.inl 235)), (some "way", some (.inl 243)), (some "look_at_word", some (.inl 250)), (some "switches", some (.inl 257)), (some "listed", some (.inl 264)), (some "change", some (.inl 271)), (some "__getitem__", some (.inl 278)), (some "__setitem__", some (.inl 285)), (some "__iter__", some (.inl 292)), (some "__len__", some (.inl 299)), (some "__eq__", some (.inl 306)), (some "__le__", some (.inl 313)), (some "__static_attributes__", some (.inl 314)), (some "__dict__", some (.inl 317)), (some "__weakref__", some (.inl 318)), (some "__doc__", none), (some "__hash__", none)]
def mrBook : Addr × List Value := (315, [.ref 316, .type "object"])
def tbSetting : List Ent := [(some "__module__", none), (some "__firstlineno__", some (.inr 587)), (some "__init__", some (.inl 1003)), (some "book", some (.inl 1010)), (some "readers", some (.inl 1018)), (some "takers", some (.inl 1026)), (some "steppers", some (.inl 1034)), (some "things", some (.inl 1042)), (some "__eq__", some (.inl 1049)), (some "__static_attributes__", some (.inl 1050)), (some "__dict__", some (.inl 1053)), (some "__weakref__", some (.inl 1054)), (some "__doc__", none), (some "__hash__", none)]
def mrSetting : Addr × List Value := (1051, [.ref 1052, .type "object"])
def tbStillWorld : List Ent := [(some "__module__", none), (some "__firstlineno__", some (.inr 625)), (some "__init__", some (.inl 1084)), (some "state", some (.inl 1091)), (some "words", some (.inl 1098)), (some "reader_deeds", some (.inl 1105)), (some "taker_deeds", some (.inl 1112)), (some "moves", some (.inl 1117)), (some "do", some (.inl 1124)), (some "reader_does", some (.inl 1131)), (some "noted", some (.inl 1138)), (some "looked", some (.inl 1145)), (some "taker_does", some (.inl 1152)), (some "__static_attributes__", some (.inl 1153)), (some "__dict__", some (.inl 1156)), (some "__weakref__", some (.inl 1157)), (some "__doc__", none)]
def mrStillWorld : Addr × List Value := (1154, [.ref 1155, .type "object"])
def tbBench : List Ent := [(some "__module__", none), (some "__firstlineno__", some (.inr 752)), (some "__init__", some (.inl 1230)), (some "__call__", some (.inl 1237)), (some "__iadd__", some (.inl 1244)), (some "cut", some (.inl 1251)), (some "state", some (.inl 1258)), (some "moves", some (.inl 1265)), (some "made", some (.inl 1272)), (some "listed", some (.inl 1279)), (some "last", some (.inl 1286)), (some "place", some (.inl 1294)), (some "number", some (.inl 1302)), (some "unsafe", some (.inl 1310)), (some "count_of", some (.inl 1317)), (some "is_hand", some (.inl 1324)), (some "back", some (.inl 1332)), (some "twin", some (.inl 1339)), (some "trial", some (.inl 1346)), (some "__contains__", some (.inl 1353)), (some "__getitem__", some (.inl 1360)), (some "__iter__", some (.inl 1367)), (some "__len__", some (.inl 1374)), (some "__eq__", some (.inl 1381)), (some "__static_attributes__", some (.inl 1382)), (some "__dict__", some (.inl 1385)), (some "__weakref__", some (.inl 1386)), (some "__doc__", none), (some "__hash__", none)]
def mrBench : Addr × List Value := (1383, [.ref 1384, .type "object"])
def tabs : List (Addr × List Ent) := [(722, tbStillBook), (315, tbBook), (1051, tbSetting), (1154, tbStillWorld), (1383, tbBench)]
def mros : List (Addr × (Addr × List Value)) := [(723, mrStillBook), (316, mrBook), (1052, mrSetting), (1155, mrStillWorld), (1384, mrBench)]
/-! what is looked at -/
abbrev Seen : Type := (Bool × List He.FnW × Bool) × (List He.FnW × Option (List (Option (Str × Int))) × Option (List Ent)) × (List (Option (List Ent)) × List (Option (Addr × List Value)))
abbrev bigK (g : Addr → Option Obj) : PySem.W.Frag := He.frG g lits
def seeG (g : Addr → Option Obj) : Seen := ((fcs.all fun f => f (bigK g), fls.map fun p => fnA (He.frG g [p.1, p.2.1]) p.1, fls.all fun p => fnB (He.frG g [p.1, p.2.1]) p.1 p.2.2.1 [] [] && PySem.W.isFn (He.frG g [p.1, p.2.1]) (.ref p.1)),
  (fl2.map fun p => fnA (bigK g) p.1, He.dicW (bigK g) oAd, tabAt (bigK g) mainGlobals), (tabs.map fun p => tabAt (bigK g) p.1, mros.map fun p => mroA (bigK g) p.1))
def wantG (w : World) : Seen := ((true, fls.map (·.2.2.2), true), (fl2.map (·.2), some (He.keysIn w.params oks), some glL), (tabs.map fun p => some p.2, mros.map fun p => some p.2))
structure Says (w : World) (K : PySem.W.Frag) : Prop where
  fc : ∀ f ∈ fcs, f K = true
  sm : ∀ p ∈ fls, SmallFn K p.1 p.2.2.1 p.2.2.2
  f2 : ∀ p ∈ fl2, fnA K p.1 = p.2
  tb : He.dicW K oAd = some (He.keysIn w.params oks)
  gl : tabAt K mainGlobals = some glL
  tbs : ∀ p ∈ tabs, tabAt K p.1 = some p.2
  mrs : ∀ p ∈ mros, mroA K p.1 = some p.2
theorem in_lits : (fls.all fun p => lits.contains p.1 && lits.contains p.2.1) = true := by kernel_rfl
theorem map_at {α β : Type} {f h : α → β} : ∀ {l : List α}, l.map f = l.map h → ∀ p ∈ l, f p = h p
  | x :: l, e, p, m => by
    rw [List.map_cons, List.map_cons] at e
    injection e with e1 e2
    rcases List.mem_cons.mp m with rfl | m
    · exact e1
    · exact map_at e2 p m
theorem says_of {w : World} {g : Addr → Option Obj} (e : seeG g = wantG w) : Says w (bigK g) := by
  have e1 : (fcs.all fun f => f (bigK g)) = true := congrArg (fun z : Seen => z.1.1) e
  have e2 : (fls.map fun p => fnA (He.frG g [p.1, p.2.1]) p.1) = fls.map (·.2.2.2) := congrArg (fun z : Seen => z.1.2.1) e
  have e3 : (fls.all fun p => fnB (He.frG g [p.1, p.2.1]) p.1 p.2.2.1 [] [] && PySem.W.isFn (He.frG g [p.1, p.2.1]) (.ref p.1)) = true := congrArg (fun z : Seen => z.1.2.2) e
  have e4 : (fl2.map fun p => fnA (bigK g) p.1) = fl2.map (·.2) := congrArg (fun z : Seen => z.2.1.1) e
  have e5 : (tabs.map fun p => tabAt (bigK g) p.1) = tabs.map fun p => some p.2 := congrArg (fun z : Seen => z.2.2.1) e
  have e6 : (mros.map fun p => mroA (bigK g) p.1) = mros.map fun p => some p.2 := congrArg (fun z : Seen => z.2.2.2) e
  refine ⟨fun f m => List.all_eq_true.mp e1 f m, fun p m => ?_, fun p m => map_at e4 p m, congrArg (fun z : Seen => z.2.1.2.1) e, congrArg (fun z : Seen => z.2.1.2.2) e, fun p m => map_at e5 p m, fun p m => map_at e6 p m⟩
  obtain ⟨b1, b2⟩ := He.ba (List.all_eq_true.mp e3 p m)
  obtain ⟨m1, m2⟩ := He.ba (List.all_eq_true.mp in_lits p m)
  refine ⟨_, part_of fun b hb => ?_, map_at e2 p m, b1, b2⟩
  rcases List.mem_cons.mp hb with rfl | hb
  · exact List.contains_iff_mem.mp m1
  · rcases List.mem_cons.mp hb with rfl | hb
    · exact List.contains_iff_mem.mp m2
    · cases hb
def look : PySem.W.Hook where
  α := Seen
  obs := fun s => seeG s.heap.get?
  val := wantG
  says := fun w h => ∃ K : PySem.W.Frag, K.In h ∧ Says w K
  of := fun _ s e => ⟨bigK s.heap.get?, He.frG_in, says_of e⟩
  keeps := fun _ _ _ ⟨K, hK, c⟩ k => ⟨K, PySem.W.Frag.In.keeps hK k, c⟩
def lookT (s : PySem.W.SharedT) : Seen := seeG (HandSHeadRun.getT s)
theorem lookT_eq (s : PySem.W.SharedT) : lookT s = look.obs s.abs := by
  have e : HandSHeadRun.getT s = s.abs.heap.get? := funext (HandSHeadRun.getT_eq s)
  unfold lookT
  rw [e] <;> rfl
theorem Says.fact {w : World} {K : PySem.W.Frag} (h : Says w K) (i : Nat) {f : PySem.W.Frag → Bool} (e : fcs[i]? = some f := by rfl) : f K = true := h.fc f (List.mem_of_getElem? e)
theorem Says.fn {w : World} {K : PySem.W.Frag} (h : Says w K) (i : Nat) {p : Addr × He.FnW} (e : fl2[i]? = some p := by rfl) : fnA K p.1 = p.2 := h.f2 p (List.mem_of_getElem? e)
theorem Says.small {w : World} {K : PySem.W.Frag} (h : Says w K) (i : Nat) {p : Addr × Addr × Str × He.FnW} (e : fls[i]? = some p := by rfl) : SmallFn K p.1 p.2.2.1 p.2.2.2 := h.sm p (List.mem_of_getElem? e)
theorem Says.tab {w : World} {K : PySem.W.Frag} (h : Says w K) : ∃ es n, KDict K w oAd es n := He.dicW_ok h.tb
section
variable {w : World} {K : PySem.W.Frag}
theorem Says.tabI (h : Says w K) (i : Nat) {p : Addr × List Ent} (e : tabs[i]? = some p := by rfl) : tabAt K p.1 = some p.2 := h.tbs p (List.mem_of_getElem? e)
theorem Says.mroI (h : Says w K) (i : Nat) {p : Addr × (Addr × List Value)} (e : mros[i]? = some p := by rfl) : mroA K p.1 = some p.2 := h.mrs p (List.mem_of_getElem? e)
theorem Says.tStillBook (h : Says w K) : tabAt K 722 = some tbStillBook := h.tabI 0
theorem Says.cStillBook (h : Says w K) : mroA K 723 = some (722, [.ref 723, .ref 316, .type "object"]) := h.mroI 0
theorem Says.tBook (h : Says w K) : tabAt K 315 = some tbBook := h.tabI 1
theorem Says.cBook (h : Says w K) : mroA K 316 = some (315, [.ref 316, .type "object"]) := h.mroI 1
theorem Says.tSetting (h : Says w K) : tabAt K 1051 = some tbSetting := h.tabI 2
theorem Says.cSetting (h : Says w K) : mroA K 1052 = some (1051, [.ref 1052, .type "object"]) := h.mroI 2
theorem Says.tStillWorld (h : Says w K) : tabAt K 1154 = some tbStillWorld := h.tabI 3
theorem Says.cStillWorld (h : Says w K) : mroA K 1155 = some (1154, [.ref 1155, .type "object"]) := h.mroI 3
theorem Says.tBench (h : Says w K) : tabAt K 1383 = some tbBench := h.tabI 4
theorem Says.cBench (h : Says w K) : mroA K 1384 = some (1383, [.ref 1384, .type "object"]) := h.mroI 4
end

end Ep
set_option maxHeartbeats 0
namespace EpH
open PySem PySem.W PySem.Calls PyProof.Rows
abbrev R : OpenRow := OpenLaw.row PySem.Challenge.rw_epochrooms_k49_whole_safe_still_points_h
abbrev qv : Program := view R.prog [72]
def names : List PySem.Str := (["_wall", "RoomsError", "NoSwitch", "NoValue", "NoBook", "NoSetting", "NoMove", "NoHand", "is_number", "is_whole", "ORDERS", "LEAST_EPOCHS", "MOST_EPOCHS", "MOST_COUNTS", "values_at", "is_same", "is_value", "care", "Book", "EpochBook", "LookBook", "StillBook", "is_book", "look_at_book", "least_needed", "is_safe", "READER_DEEDS", "TAKER_DEEDS", "STEPPER_DEEDS", "first_epochs"] : List PySem.Str) ++ (["EpochWorld", "first_looks", "LookWorld", "MOST_READERS", "MOST_TAKERS", "MOST_STEPPERS", "MOST_THINGS", "Setting", "look_at_setting", "first_stills", "StillWorld", "is_unsafe", "world_of", "first_state", "moves", "moves_rules", "has_form", "is_possible", "step", "KINDS", "hand_of", "Bench", "_law_pool", "_law_take", "_law_one", "_law_switches", "_law_choices", "_law_book", "_law_setting", "_law_safe_own"] : List PySem.Str) ++ (["_law_holds"] : List PySem.Str)
theorem run_f (w : World) : HandSHeadRun.RunEq R qv Ep.look Ep.lookT 30000 names (w.withFollow "special-get-raises" false) := by
  intro os
  kernel_rfl
theorem run_t (w : World) : HandSHeadRun.RunEq R qv Ep.look Ep.lookT 30000 names (w.withFollow "special-get-raises" true) := by
  intro os
  kernel_rfl
theorem run (w : World) : HandSHeadRun.RunEq R qv Ep.look Ep.lookT 30000 names w := byRow2 "special-get-raises" run_f run_t w
end EpH
set_option maxHeartbeats 4000000
namespace EpM
inductive Md where
  | idle | noting | noted | waiting | passed
  deriving DecidableEq
inductive Dd where
  | get | still | sleep | wake | use | fin | take | note | look | free
  deriving DecidableEq
/-- a reader: its count, its flag, its thing (inside if it has one) -/
structure Rd where
  cnt : Int
  flag : Bool
  th : Option Int
/-- a taker -/
structure Tk where
  md : Md
  pos : Nat
  nt : List Int
  out : Option Int
structure St where
  place : Int
  rs : List Rd
  ts : List Tk
  fr : List Int
/-- the book's switches, the things -/
structure Cf where
  m : Int
  any : Bool
  behind : Bool
  slp : Bool
  things : Int
structure Cf.Ok (c : Cf) : Prop where
  m1 : 1 ≤ c.m
  m4 : c.m ≤ 4
  safe : c.m = 1 ∨ (c.any = false ∧ c.behind = true)
  t1 : 1 ≤ c.things
  t40 : c.things ≤ 40
def rDeeds (c : Cf) (r : Rd) : List Dd :=
  match r.th with
  | some _ => [.use, .fin] ++ (if c.any && !r.flag then [Dd.still] else []) ++ (if r.flag then [Dd.wake] else [])
  | none => if r.flag then [.wake] else if c.slp then [.get, .still, .sleep] else [.get, .still]
def tDeeds (c : Cf) (place : Int) (md : Md) : List Dd :=
  match md with
  | .idle => if c.behind then (if place < c.things then [.take] else []) else [.note]
  | .noted => if place < c.things then [.take] else []
  | .noting => [.note]
  | .waiting => [.look]
  | .passed => [.free]
/-- a move: of a taker (or reader), its number, its deed -/
structure Mv where
  tk : Bool
  k : Nat
  d : Dd
  deriving DecidableEq
def rMoves (c : Cf) : Nat → List Rd → List Mv
  | _, [] => []
  | k, r :: rs => (rDeeds c r).map (fun d => ⟨false, k, d⟩) ++ rMoves c (k + 1) rs
def tMoves (c : Cf) (place : Int) : Nat → List Tk → List Mv
  | _, [] => []
  | k, t :: ts => (tDeeds c place t.md).map (fun d => ⟨true, k, d⟩) ++ tMoves c place (k + 1) ts
def moves (c : Cf) (s : St) : List Mv := rMoves c 0 s.rs ++ tMoves c s.place 0 s.ts
def doR (c : Cf) (place : Int) (r : Rd) : Dd → Rd
  | .get => { r with th := some place }
  | .fin => { r with th := none }
  | .still => { r with cnt := (r.cnt + 1) % c.m }
  | .sleep => { r with flag := true }
  | .wake => { r with flag := false }
  | _ => r
/-- behind a note of reader number pos -/
def noteT (c : Cf) (rs : List Rd) (t : Tk) : Tk :=
  let nt := t.nt ++ [(rs[t.pos]?.map (·.cnt)).getD 0]
  if t.pos + 1 < rs.length then { t with md := .noting, pos := t.pos + 1, nt := nt }
  else { t with md := if c.behind then .waiting else .noted, pos := 0, nt := nt }
def goesBy (rs : List Rd) (t : Tk) : Bool :=
  match rs[t.pos]? with
  | some r => !(decide (r.cnt = t.nt.getD t.pos 0) && !r.flag)
  | none => false
def lookT (rs : List Rd) (t : Tk) : Tk :=
  if goesBy rs t then (if t.pos + 1 < rs.length then { t with md := .waiting, pos := t.pos + 1 } else { t with md := .passed, pos := 0 })
  else { t with md := .waiting }
def step (c : Cf) (s : St) (v : Mv) : St :=
  match v.tk with
  | false => (match s.rs[v.k]? with
    | some r => { s with rs := s.rs.set v.k (doR c s.place r v.d) }
    | none => s)
  | true => (match s.ts[v.k]? with
    | none => s
    | some t => match v.d with
      | .take => { s with place := s.place + 1, ts := s.ts.set v.k { t with md := if c.behind then .noting else .waiting, pos := 0, out := some s.place } }
      | .note => { s with ts := s.ts.set v.k (noteT c s.rs t) }
      | .look => { s with ts := s.ts.set v.k (lookT s.rs t) }
      | _ => { s with ts := s.ts.set v.k { t with md := .idle, nt := [], out := none }, fr := s.fr ++ t.out.toList })

/-! ### the invariant -/
structure RInv (c : Cf) (s : St) (r : Rd) : Prop where
  c0 : 0 ≤ r.cnt
  cm : r.cnt < c.m
  th0 : ∀ t, r.th = some t → 0 ≤ t ∧ t ≤ s.place ∧ r.flag = false ∧ ∀ f, f ∈ s.fr → f < t
structure TInv (c : Cf) (s : St) (t : Tk) : Prop where
  idle : t.md = .idle → t.nt = [] ∧ t.out = none ∧ t.pos = 0
  noting : t.md = .noting → t.pos < s.rs.length ∧ t.nt.length = t.pos ∧ (c.behind = true → t.out.isSome = true) ∧ (c.behind = false → t.out = none)
  noted : t.md = .noted → t.pos = 0 ∧ t.nt.length = s.rs.length ∧ t.out = none ∧ c.behind = false
  waiting : t.md = .waiting → t.pos < s.rs.length ∧ t.nt.length = s.rs.length ∧ t.out.isSome = true
  passed : t.md = .passed → t.pos = 0 ∧ t.out.isSome = true
  rng : ∀ x, x ∈ t.nt → 0 ≤ x ∧ x < c.m
  out0 : ∀ o, t.out = some o → 0 ≤ o ∧ o < s.place
  oldN : ∀ (o : Int) (k : Nat) (r : Rd) (u : Int), t.out = some o → s.rs[k]? = some r → r.th = some u → u ≤ o → t.md = .noting → ∀ x, t.nt[k]? = some x → x = r.cnt
  oldW : ∀ (o : Int) (k : Nat) (r : Rd) (u : Int), t.out = some o → s.rs[k]? = some r → r.th = some u → u ≤ o → t.md = .waiting → t.pos ≤ k ∧ t.nt[k]? = some r.cnt
  oldP : ∀ (o : Int) (k : Nat) (r : Rd) (u : Int), t.out = some o → s.rs[k]? = some r → r.th = some u → u ≤ o → t.md ≠ .passed
def rangeI (n : Int) : List Int := (List.range n.toNat).map Int.ofNat
structure Inv (c : Cf) (s : St) : Prop where
  p0 : 0 ≤ s.place
  pt : s.place ≤ c.things
  rI : ∀ r, r ∈ s.rs → RInv c s r
  tI : ∀ t, t ∈ s.ts → TInv c s t
  perm : (s.fr ++ s.ts.filterMap (·.out)).Perm (rangeI s.place)
  nr : 1 ≤ s.rs.length
  nt1 : 1 ≤ s.ts.length

theorem rangeI_succ {n : Int} (h : 0 ≤ n) : rangeI (n + 1) = rangeI n ++ [n] := by
  unfold rangeI
  have e : (n + 1).toNat = n.toNat + 1 := by omega
  rw [e, List.range_succ, List.map_append]
  congr 1
  simp only [List.map_cons, List.map_nil]
  congr 1
  show ((n.toNat : Nat) : Int) = n
  omega
theorem mem_rangeI {n x : Int} : x ∈ rangeI n ↔ 0 ≤ x ∧ x < n := by
  unfold rangeI
  constructor
  · intro h
    obtain ⟨i, hi, e⟩ := List.mem_map.mp h
    have := List.mem_range.mp hi
    have e2 : ((i : Nat) : Int) = x := e
    omega
  · rintro ⟨h1, h2⟩
    exact List.mem_map.mpr ⟨x.toNat, List.mem_range.mpr (by omega), by show ((x.toNat : Nat) : Int) = x; omega⟩
theorem length_rangeI (n : Int) : (rangeI n).length = n.toNat := by simp [rangeI]
theorem filterMap_split {t : Tk} : ∀ {ts : List Tk} {k : Nat}, ts[k]? = some t → ∃ a b, ts = a ++ t :: b ∧ a.length = k
  | [], k, h => by simp at h
  | x :: r, 0, h => by
    have e : x = t := by simpa using h
    subst e
    exact ⟨[], r, rfl, rfl⟩
  | x :: r, k + 1, h => by
    obtain ⟨a, b, e, l⟩ := filterMap_split (ts := r) (k := k) (by simpa using h)
    exact ⟨x :: a, b, by rw [e, List.cons_append], by simp [l]⟩
theorem set_split {t u : Tk} {a b : List Tk} : (a ++ t :: b).set a.length u = a ++ u :: b := by
  induction a with
  | nil => rfl
  | cons x r ih => simp [ih]

theorem mem_rMoves {c : Cf} {v : Mv} : ∀ {rs : List Rd} {k : Nat}, v ∈ rMoves c k rs → v.tk = false ∧ k ≤ v.k ∧ ∃ r, rs[v.k - k]? = some r ∧ v.d ∈ rDeeds c r
  | [], k, h => by simp [rMoves] at h
  | r :: rs, k, h => by
    unfold rMoves at h
    rcases List.mem_append.mp h with h | h
    · obtain ⟨d, hd, e⟩ := List.mem_map.mp h
      subst e
      exact ⟨rfl, Nat.le_refl _, r, by simp, hd⟩
    · obtain ⟨h1, h2, r', h3, h4⟩ := mem_rMoves h
      refine ⟨h1, by omega, r', ?_, h4⟩
      have e : v.k - k = (v.k - (k + 1)) + 1 := by omega
      rw [e]
      simpa using h3
theorem mem_tMoves {c : Cf} {p : Int} {v : Mv} : ∀ {ts : List Tk} {k : Nat}, v ∈ tMoves c p k ts → v.tk = true ∧ k ≤ v.k ∧ ∃ t, ts[v.k - k]? = some t ∧ v.d ∈ tDeeds c p t.md
  | [], k, h => by simp [tMoves] at h
  | r :: rs, k, h => by
    unfold tMoves at h
    rcases List.mem_append.mp h with h | h
    · obtain ⟨d, hd, e⟩ := List.mem_map.mp h
      subst e
      exact ⟨rfl, Nat.le_refl _, r, by simp, hd⟩
    · obtain ⟨h1, h2, r', h3, h4⟩ := mem_tMoves h
      refine ⟨h1, by omega, r', ?_, h4⟩
      have e : v.k - k = (v.k - (k + 1)) + 1 := by omega
      rw [e]
      simpa using h3
/-- a possible move: whose it is -/
theorem mem_moves {c : Cf} {s : St} {v : Mv} (h : v ∈ moves c s) :
    (v.tk = false ∧ ∃ r, s.rs[v.k]? = some r ∧ v.d ∈ rDeeds c r) ∨ (v.tk = true ∧ ∃ t, s.ts[v.k]? = some t ∧ v.d ∈ tDeeds c s.place t.md) := by
  unfold moves at h
  rcases List.mem_append.mp h with h | h
  · obtain ⟨h1, _, r, h3, h4⟩ := mem_rMoves h
    exact .inl ⟨h1, r, by simpa using h3, h4⟩
  · obtain ⟨h1, _, r, h3, h4⟩ := mem_tMoves h
    exact .inr ⟨h1, r, by simpa using h3, h4⟩
theorem rDeeds_ne (c : Cf) (r : Rd) : rDeeds c r ≠ [] := by
  unfold rDeeds
  split
  · simp
  · split
    · simp
    · split <;> simp
theorem moves_ne {c : Cf} {s : St} (h : 1 ≤ s.rs.length) : moves c s ≠ [] := by
  unfold moves
  cases e : s.rs with
  | nil =>
    rw [e] at h
    simp at h
  | cons r rs =>
    unfold rMoves
    have := rDeeds_ne c r
    intro q
    simp at q
    exact this q.1

/-! ### it is kept -/
theorem use_safe {c : Cf} {s : St} (I : Inv c s) {r : Rd} (hr : r ∈ s.rs) (h : Dd.use ∈ rDeeds c r) : ∃ t, r.th = some t ∧ t ∉ s.fr := by
  cases e : r.th with
  | none =>
    unfold rDeeds at h
    rw [e] at h
    dsimp only at h
    split at h
    · simp at h
    · split at h <;> simp at h
  | some t =>
    refine ⟨t, rfl, fun q => ?_⟩
    have := ((I.rI r hr).th0 t e).2.2.2 t q
    omega
theorem mod_one_zero {x m : Int} (h : m = 1) : x % m = 0 := by subst h; omega

theorem old_get {s : St} {k : Nat} {r : Rd} (h : s.rs[k]? = some r) : r ∈ s.rs := List.mem_of_getElem? h

/-- a reader's deed -/
theorem inv_r {c : Cf} {s : St} (C : c.Ok) (I : Inv c s) {k : Nat} {r : Rd} {d : Dd} (hk : s.rs[k]? = some r) (hd : d ∈ rDeeds c r) :
    Inv c { s with rs := s.rs.set k (doR c s.place r d) } := by
  have hr := old_get hk
  have R := I.rI r hr
  have hkl : k < s.rs.length := (List.getElem?_eq_some_iff.mp hk).1
  -- the new reader is fine
  have place_gt : ∀ f, f ∈ s.fr → f < s.place := fun f hf => by
    have : f ∈ rangeI s.place := (I.perm.mem_iff).mp (List.mem_append_left _ hf)
    exact (mem_rangeI.mp this).2
  have modm : 0 ≤ (r.cnt + 1) % c.m ∧ (r.cnt + 1) % c.m < c.m := ⟨Int.emod_nonneg _ (by have := C.m1; omega), Int.emod_lt_of_pos _ (by have := C.m1; omega)⟩
  have flag_out : r.th = none ∨ ∃ t, r.th = some t := by
    cases r.th with
    | none => exact .inl rfl
    | some t => exact .inr ⟨t, rfl⟩
  have newR : RInv c { s with rs := s.rs.set k (doR c s.place r d) } (doR c s.place r d) := by
    cases d with
    | get =>
      have hf : r.flag = false := by
        unfold rDeeds at hd
        rcases flag_out with e | ⟨t, e⟩
        · rw [e] at hd
          dsimp only at hd
          cases hf : r.flag with
          | false => rfl
          | true => rw [hf] at hd; simp at hd
        · exact (R.th0 t e).2.2.1
      refine ⟨R.c0, R.cm, fun t e => ?_⟩
      have e' : s.place = t := by simpa [doR] using e
      subst e'
      exact ⟨I.p0, Int.le_refl _, hf, place_gt⟩
    | fin => exact ⟨R.c0, R.cm, fun t e => by simp [doR] at e⟩
    | still => exact ⟨modm.1, modm.2, fun t e => R.th0 t e⟩
    | sleep =>
      refine ⟨R.c0, R.cm, fun t e => ?_⟩
      exfalso
      have e' : r.th = some t := e
      unfold rDeeds at hd
      rw [e'] at hd
      dsimp only at hd
      have hf := (R.th0 t e').2.2.1
      rw [hf] at hd
      cases ha : c.any <;> rw [ha] at hd <;> simp at hd
    | wake => exact ⟨R.c0, R.cm, fun t e => ⟨(R.th0 t e).1, (R.th0 t e).2.1, rfl, (R.th0 t e).2.2.2⟩⟩
    | _ => exact ⟨R.c0, R.cm, R.th0⟩
  -- an old reader of the new state was an old reader with that count (or the book has one count alone)
  have back : ∀ (o : Int) (j : Nat) (r' : Rd) (u : Int), o < s.place → (s.rs.set k (doR c s.place r d))[j]? = some r' → r'.th = some u → u ≤ o →
      ∃ r0, s.rs[j]? = some r0 ∧ r0.th = some u ∧ r0.cnt = r'.cnt := by
    intro o j r' u ho hj hu hle
    by_cases hjk : j = k
    · subst hjk
      rw [List.getElem?_set_self hkl] at hj
      have e : doR c s.place r d = r' := Option.some.inj hj
      subst e
      refine ⟨r, hk, ?_⟩
      cases d with
      | get =>
        exfalso
        have e' : s.place = u := by simpa [doR] using hu
        omega
      | fin => simp [doR] at hu
      | still =>
        have hu' : r.th = some u := hu
        refine ⟨hu', ?_⟩
        -- a still inside: the book lets it anywhere, so it has one count
        have hone : c.m = 1 := by
          rcases C.safe with h | ⟨h, _⟩
          · exact h
          · exfalso
            unfold rDeeds at hd
            rw [hu'] at hd
            dsimp only at hd
            rw [h] at hd
            cases hf : r.flag <;> rw [hf] at hd <;> simp at hd
        show r.cnt = (r.cnt + 1) % c.m
        rw [mod_one_zero hone]
        have h1 := R.c0
        have h2 := R.cm
        omega
      | sleep => exact ⟨hu, rfl⟩
      | wake => exact ⟨hu, rfl⟩
      | use => exact ⟨hu, rfl⟩
      | take => exact ⟨hu, rfl⟩
      | note => exact ⟨hu, rfl⟩
      | look => exact ⟨hu, rfl⟩
      | free => exact ⟨hu, rfl⟩
    · rw [List.getElem?_set_ne (fun q => hjk q.symm)] at hj
      exact ⟨r', hj, hu, rfl⟩
  refine ⟨I.p0, I.pt, fun r' h' => ?_, fun t ht => ?_, I.perm, by simpa using I.nr, I.nt1⟩
  · rcases List.mem_or_eq_of_mem_set h' with h' | h'
    · have R' := I.rI r' h'
      exact ⟨R'.c0, R'.cm, R'.th0⟩
    · rw [h']
      exact newR
  · have T := I.tI t ht
    refine ⟨T.idle, ?_, ?_, ?_, T.passed, T.rng, T.out0, ?_, ?_, ?_⟩
    · intro h; simpa using T.noting h
    · intro h; simpa using T.noted h
    · intro h; simpa using T.waiting h
    · intro o j r' u ho hj hu hle hm x hx
      obtain ⟨r0, h0, h1, h2⟩ := back o j r' u (T.out0 o ho).2 hj hu hle
      rw [← h2]
      exact T.oldN o j r0 u ho h0 h1 hle hm x hx
    · intro o j r' u ho hj hu hle hm
      obtain ⟨r0, h0, h1, h2⟩ := back o j r' u (T.out0 o ho).2 hj hu hle
      rw [← h2]
      exact T.oldW o j r0 u ho h0 h1 hle hm
    · intro o j r' u ho hj hu hle
      obtain ⟨r0, h0, h1, _⟩ := back o j r' u (T.out0 o ho).2 hj hu hle
      exact T.oldP o j r0 u ho h0 h1 hle

/-- one taker changed, place and freed as they are, its out as it is -/
theorem inv_t {c : Cf} {s : St} (I : Inv c s) {k : Nat} {t u : Tk} (hk : s.ts[k]? = some t) (ho : u.out = t.out) (U : TInv c s u) : Inv c { s with ts := s.ts.set k u } := by
  obtain ⟨a, b, e, l⟩ := filterMap_split hk
  refine ⟨I.p0, I.pt, fun r hr => ?_, fun v hv => ?_, ?_, I.nr, by simpa using I.nt1⟩
  · have R := I.rI r hr
    exact ⟨R.c0, R.cm, R.th0⟩
  · have V : TInv c s v := by
      rcases List.mem_or_eq_of_mem_set hv with hv | hv
      · exact I.tI v hv
      · rw [hv]; exact U
    exact ⟨V.idle, V.noting, V.noted, V.waiting, V.passed, V.rng, V.out0, V.oldN, V.oldW, V.oldP⟩
  · have p := I.perm
    show (s.fr ++ (s.ts.set k u).filterMap (·.out)).Perm (rangeI s.place)
    have e2 : (s.ts.set k u).filterMap (·.out) = s.ts.filterMap (·.out) := by
      rw [e, ← l, set_split]
      simp only [List.filterMap_append, List.filterMap_cons, ho]
    rw [e2]
    exact p

theorem inv_note {c : Cf} {s : St} (C : c.Ok) (I : Inv c s) {k : Nat} {t : Tk} (hk : s.ts[k]? = some t) (hd : Dd.note ∈ tDeeds c s.place t.md) : Inv c { s with ts := s.ts.set k (noteT c s.rs t) } := by
  have T := I.tI t (List.mem_of_getElem? hk)
  -- where it stands
  have hm : (t.md = .idle ∧ c.behind = false) ∨ t.md = .noting := by
    unfold tDeeds at hd
    cases e : t.md with
    | idle =>
      rw [e] at hd
      dsimp only at hd
      cases hb : c.behind with
      | false => exact .inl ⟨rfl, rfl⟩
      | true =>
        rw [hb] at hd
        simp only [if_true] at hd
        split at hd <;> simp at hd
    | noting => exact .inr rfl
    | noted =>
      rw [e] at hd
      dsimp only at hd
      split at hd <;> simp at hd
    | waiting => rw [e] at hd; simp at hd
    | passed => rw [e] at hd; simp at hd
  have hpos : t.pos < s.rs.length ∧ t.nt.length = t.pos ∧ (c.behind = true → t.out.isSome = true) ∧ (c.behind = false → t.out = none) := by
    rcases hm with ⟨e, hb⟩ | e
    · obtain ⟨h1, h2, h3⟩ := T.idle e
      have := I.nr
      refine ⟨by omega, by rw [h1, h3]; rfl, fun q => by rw [hb] at q; simp at q, fun _ => h2⟩
    · exact T.noting e
  obtain ⟨hp, hl, hbt, hbf⟩ := hpos
  obtain ⟨r, hr⟩ : ∃ r, s.rs[t.pos]? = some r := ⟨s.rs[t.pos], by simp [hp]⟩
  have R := I.rI r (List.mem_of_getElem? hr)
  have ecnt : (s.rs[t.pos]?.map (·.cnt)).getD 0 = r.cnt := by rw [hr]; rfl
  have rng' : ∀ x, x ∈ t.nt ++ [r.cnt] → 0 ≤ x ∧ x < c.m := fun x hx => by
    rcases List.mem_append.mp hx with h | h
    · exact T.rng x h
    · rw [List.mem_singleton.mp h]; exact ⟨R.c0, R.cm⟩
  -- what is noted of an old reader is its count
  have old : ∀ (o : Int) (j : Nat) (r' : Rd) (u : Int), t.out = some o → s.rs[j]? = some r' → r'.th = some u → u ≤ o → ∀ x, (t.nt ++ [r.cnt])[j]? = some x → x = r'.cnt := by
    intro o j r' u ho hj hu hle x hx
    by_cases h1 : j < t.nt.length
    · rw [List.getElem?_append_left h1] at hx
      rcases hm with ⟨e, hb⟩ | e
      · rw [hbf hb] at ho; simp at ho
      · exact T.oldN o j r' u ho hj hu hle e x hx
    · rw [List.getElem?_append_right (by omega)] at hx
      have h2 : j = t.nt.length := by
        have := (List.getElem?_eq_some_iff.mp hx).1
        simp at this
        omega
      subst h2
      rw [hl, hr] at hj
      have e : r = r' := Option.some.inj hj
      subst e
      simpa using hx.symm
  refine inv_t I hk ?_ ?_
  · unfold noteT
    dsimp only
    split <;> rfl
  · unfold noteT
    dsimp only
    rw [ecnt]
    by_cases hlt : t.pos + 1 < s.rs.length
    · rw [if_pos hlt]
      refine ⟨fun h => ?_, fun _ => ?_, fun h => ?_, fun h => ?_, fun h => ?_, rng', T.out0, ?_, ?_, ?_⟩
      · simp at h
      · exact ⟨hlt, by simp [hl], hbt, hbf⟩
      · simp at h
      · simp at h
      · simp at h
      · intro o j r' u ho hj hu hle _ x hx
        exact old o j r' u ho hj hu hle x hx
      · intro o j r' u ho hj hu hle h
        simp at h
      · intro o j r' u ho hj hu hle h
        simp at h
    · rw [if_neg hlt]
      have hend : (t.nt ++ [r.cnt]).length = s.rs.length := by simp; omega
      cases hb : c.behind with
      | true =>
        simp only [if_true]
        refine ⟨fun h => ?_, fun h => ?_, fun h => ?_, fun _ => ?_, fun h => ?_, rng', T.out0, ?_, ?_, ?_⟩
        · simp at h
        · simp at h
        · simp at h
        · exact ⟨by show 0 < s.rs.length; omega, hend, hbt hb⟩
        · simp at h
        · intro o j r' u ho hj hu hle h
          simp at h
        · intro o j r' u ho hj hu hle _
          refine ⟨Nat.zero_le _, ?_⟩
          have hj' : j < (t.nt ++ [r.cnt]).length := by rw [hend]; exact (List.getElem?_eq_some_iff.mp hj).1
          have q := old o j r' u ho hj hu hle ((t.nt ++ [r.cnt])[j]) (by simp [hj'])
          show (t.nt ++ [r.cnt])[j]? = some r'.cnt
          rw [← q]
          simp [hj']
        · intro o j r' u ho hj hu hle h
          simp at h
      | false =>
        simp only [Bool.false_eq_true, if_false]
        refine ⟨fun h => ?_, fun h => ?_, fun _ => ?_, fun h => ?_, fun h => ?_, rng', T.out0, ?_, ?_, ?_⟩
        · simp at h
        · simp at h
        · exact ⟨rfl, hend, hbf hb, hb⟩
        · simp at h
        · simp at h
        · intro o j r' u ho hj hu hle h
          simp at h
        · intro o j r' u ho hj hu hle h
          simp at h
        · intro o j r' u ho hj hu hle h
          simp at h

theorem inv_look {c : Cf} {s : St} (I : Inv c s) {k : Nat} {t : Tk} (hk : s.ts[k]? = some t) (hd : Dd.look ∈ tDeeds c s.place t.md) : Inv c { s with ts := s.ts.set k (lookT s.rs t) } := by
  have T := I.tI t (List.mem_of_getElem? hk)
  have hm : t.md = .waiting := by
    unfold tDeeds at hd
    cases e : t.md with
    | idle =>
      rw [e] at hd
      dsimp only at hd
      split at hd
      · split at hd <;> simp at hd
      · simp at hd
    | noting => rw [e] at hd; simp at hd
    | noted =>
      rw [e] at hd
      dsimp only at hd
      split at hd <;> simp at hd
    | waiting => rfl
    | passed => rw [e] at hd; simp at hd
  obtain ⟨hp, hl, hs⟩ := T.waiting hm
  obtain ⟨r, hr⟩ : ∃ r, s.rs[t.pos]? = some r := ⟨s.rs[t.pos], by simp [hp]⟩
  have R := I.rI r (List.mem_of_getElem? hr)
  by_cases hg : goesBy s.rs t = true
  · -- the reader at this place is no old one
    have young : ∀ o u, t.out = some o → r.th = some u → ¬ u ≤ o := by
      intro o u ho hu hle
      obtain ⟨_, h2⟩ := T.oldW o t.pos r u ho hr hu hle hm
      have hf := (R.th0 u hu).2.2.1
      unfold goesBy at hg
      rw [hr] at hg
      dsimp only at hg
      rw [hf, List.getD_eq_getElem?_getD, h2] at hg
      simp at hg
    refine inv_t I hk ?_ ?_
    · unfold lookT
      rw [if_pos hg]
      split <;> rfl
    · unfold lookT
      rw [if_pos hg]
      by_cases hlt : t.pos + 1 < s.rs.length
      · rw [if_pos hlt]
        refine ⟨fun h => ?_, fun h => ?_, fun h => ?_, fun _ => ⟨hlt, hl, hs⟩, fun h => ?_, T.rng, T.out0, ?_, ?_, ?_⟩
        · simp at h
        · simp at h
        · simp at h
        · simp at h
        · intro o j r' u ho hj hu hle h
          simp at h
        · intro o j r' u ho hj hu hle _
          obtain ⟨h1, h2⟩ := T.oldW o j r' u ho hj hu hle hm
          refine ⟨?_, h2⟩
          show t.pos + 1 ≤ j
          rcases Nat.lt_or_ge t.pos j with h | h
          · exact h
          · exfalso
            have e : j = t.pos := by omega
            subst e
            rw [hr] at hj
            have e : r = r' := Option.some.inj hj
            subst e
            exact young o u ho hu hle
        · intro o j r' u ho hj hu hle h
          simp at h
      · rw [if_neg hlt]
        refine ⟨fun h => ?_, fun h => ?_, fun h => ?_, fun h => ?_, fun _ => ⟨rfl, hs⟩, T.rng, T.out0, ?_, ?_, ?_⟩
        · simp at h
        · simp at h
        · simp at h
        · simp at h
        · intro o j r' u ho hj hu hle h
          simp at h
        · intro o j r' u ho hj hu hle h
          simp at h
        · intro o j r' u ho hj hu hle _
          obtain ⟨h1, h2⟩ := T.oldW o j r' u ho hj hu hle hm
          have h3 := (List.getElem?_eq_some_iff.mp hj).1
          have e : j = t.pos := by omega
          subst e
          rw [hr] at hj
          have e : r = r' := Option.some.inj hj
          subst e
          exact young o u ho hu hle
  · refine inv_t I hk ?_ ?_
    · unfold lookT
      rw [if_neg hg]
    · unfold lookT
      rw [if_neg hg]
      have e : ({ t with md := Md.waiting } : Tk) = t := by
        cases t
        simp at hm
        subst hm
        rfl
      rw [e]
      exact T

theorem filterMap_set {f : Tk → Option Int} {a b : List Tk} {t : Tk} : (a ++ t :: b).filterMap f = a.filterMap f ++ ((f t).toList ++ b.filterMap f) := by
  rw [List.filterMap_append, List.filterMap_cons]
  cases f t <;> rfl

theorem inv_take {c : Cf} {s : St} (C : c.Ok) (I : Inv c s) {k : Nat} {t : Tk} (hk : s.ts[k]? = some t) (hd : Dd.take ∈ tDeeds c s.place t.md) :
    Inv c { s with place := s.place + 1, ts := s.ts.set k { t with md := if c.behind then .noting else .waiting, pos := 0, out := some s.place } } := by
  have T := I.tI t (List.mem_of_getElem? hk)
  have hm : s.place < c.things ∧ ((t.md = .idle ∧ c.behind = true) ∨ t.md = .noted) := by
    unfold tDeeds at hd
    cases e : t.md with
    | idle =>
      rw [e] at hd
      dsimp only at hd
      cases hb : c.behind with
      | false => rw [hb] at hd; simp at hd
      | true =>
        rw [hb] at hd
        simp only [if_true] at hd
        split at hd
        · rename_i h; exact ⟨h, .inl ⟨rfl, rfl⟩⟩
        · simp at hd
    | noting => rw [e] at hd; simp at hd
    | noted =>
      rw [e] at hd
      dsimp only at hd
      split at hd
      · rename_i h; exact ⟨h, .inr rfl⟩
      · simp at hd
    | waiting => rw [e] at hd; simp at hd
    | passed => rw [e] at hd; simp at hd
  obtain ⟨hlt, hm⟩ := hm
  have hout : t.out = none := by
    rcases hm with ⟨e, _⟩ | e
    · exact (T.idle e).2.1
    · exact (T.noted e).2.2.1
  obtain ⟨a, b, e, l⟩ := filterMap_split hk
  have hp0 := I.p0
  refine ⟨?_, ?_, fun r hr => ?_, fun v hv => ?_, ?_, I.nr, by simpa using I.nt1⟩
  · show 0 ≤ s.place + 1
    omega
  · show s.place + 1 ≤ c.things
    omega
  · have R := I.rI r hr
    exact ⟨R.c0, R.cm, fun u hu => ⟨(R.th0 u hu).1, by show u ≤ s.place + 1; have := (R.th0 u hu).2.1; omega, (R.th0 u hu).2.2⟩⟩
  · rcases List.mem_or_eq_of_mem_set hv with hv | hv
    · have V := I.tI v hv
      exact ⟨V.idle, V.noting, V.noted, V.waiting, V.passed, V.rng, fun o ho => ⟨(V.out0 o ho).1, by show o < s.place + 1; have := (V.out0 o ho).2; omega⟩, V.oldN, V.oldW, V.oldP⟩
    · subst hv
      have hnr := I.nr
      rcases hm with ⟨e1, hb⟩ | e1
      · obtain ⟨h1, h2, h3⟩ := T.idle e1
        rw [hb]
        simp only [if_true]
        refine ⟨fun h => ?_, fun _ => ?_, fun h => ?_, fun h => ?_, fun h => ?_, T.rng, ?_, ?_, ?_, ?_⟩
        · simp at h
        · exact ⟨by show 0 < s.rs.length; omega, by show t.nt.length = 0; rw [h1]; rfl, fun _ => rfl, fun q => by rw [hb] at q; simp at q⟩
        · simp at h
        · simp at h
        · simp at h
        · intro o ho
          have e2 : s.place = o := by simpa using ho
          subst e2
          exact ⟨hp0, by show s.place < s.place + 1; omega⟩
        · intro o j r' u ho hj hu hle _ x hx
          have hx' : t.nt[j]? = some x := hx
          rw [h1] at hx'
          simp at hx'
        · intro o j r' u ho hj hu hle h
          simp at h
        · intro o j r' u ho hj hu hle h
          simp at h
      · obtain ⟨h1, h2, h3, hb⟩ := T.noted e1
        have hone : c.m = 1 := by
          rcases C.safe with h | ⟨_, h⟩
          · exact h
          · rw [hb] at h; simp at h
        rw [hb]
        simp only [Bool.false_eq_true, if_false]
        refine ⟨fun h => ?_, fun h => ?_, fun h => ?_, fun _ => ?_, fun h => ?_, T.rng, ?_, ?_, ?_, ?_⟩
        · simp at h
        · simp at h
        · simp at h
        · exact ⟨by show 0 < s.rs.length; omega, h2, rfl⟩
        · simp at h
        · intro o ho
          have e2 : s.place = o := by simpa using ho
          subst e2
          exact ⟨hp0, by show s.place < s.place + 1; omega⟩
        · intro o j r' u ho hj hu hle h
          simp at h
        · intro o j r' u ho hj hu hle _
          refine ⟨Nat.zero_le _, ?_⟩
          have hj1 := (List.getElem?_eq_some_iff.mp hj).1
          have hj2 : j < t.nt.length := by rw [h2]; exact hj1
          have q := T.rng (t.nt[j]) (List.getElem_mem hj2)
          have R := I.rI r' (List.mem_of_getElem? hj)
          have h4 := R.c0
          have h5 := R.cm
          show t.nt[j]? = some r'.cnt
          rw [List.getElem?_eq_getElem hj2]
          congr 1
          omega
        · intro o j r' u ho hj hu hle h
          simp at h
  · show (s.fr ++ (s.ts.set k { t with md := if c.behind then .noting else .waiting, pos := 0, out := some s.place }).filterMap (·.out)).Perm (rangeI (s.place + 1))
    rw [rangeI_succ hp0]
    have p := I.perm
    have e0 : s.ts = a ++ t :: b := e
    rw [e0, ← l, set_split, filterMap_set]
    rw [e0, filterMap_set] at p
    show (s.fr ++ (a.filterMap (fun t : Tk => t.out) ++ ([s.place] ++ b.filterMap (fun t : Tk => t.out)))).Perm (rangeI s.place ++ [s.place])
    have p' : (s.fr ++ (a.filterMap (fun t : Tk => t.out) ++ b.filterMap (fun t : Tk => t.out))).Perm (rangeI s.place) := by
      have q : (t.out).toList = [] := by rw [hout]; rfl
      rw [q] at p
      exact p
    have p2 : (s.fr ++ (a.filterMap (fun t : Tk => t.out) ++ ([s.place] ++ b.filterMap (fun t : Tk => t.out)))).Perm ((s.fr ++ (a.filterMap (fun t : Tk => t.out) ++ b.filterMap (fun t : Tk => t.out))) ++ [s.place]) := by
      rw [List.append_assoc]
      refine List.Perm.append_left _ ?_
      rw [List.append_assoc]
      exact List.Perm.append_left _ List.perm_append_comm
    exact p2.trans (p'.append_right _)

theorem inv_free {c : Cf} {s : St} (I : Inv c s) {k : Nat} {t : Tk} (hk : s.ts[k]? = some t) (hd : Dd.free ∈ tDeeds c s.place t.md) :
    Inv c { s with ts := s.ts.set k { t with md := .idle, nt := [], out := none }, fr := s.fr ++ t.out.toList } := by
  have T := I.tI t (List.mem_of_getElem? hk)
  have hm : t.md = .passed := by
    unfold tDeeds at hd
    cases e : t.md with
    | idle =>
      rw [e] at hd
      dsimp only at hd
      split at hd
      · split at hd <;> simp at hd
      · simp at hd
    | noting => rw [e] at hd; simp at hd
    | noted =>
      rw [e] at hd
      dsimp only at hd
      split at hd <;> simp at hd
    | waiting => rw [e] at hd; simp at hd
    | passed => rfl
  obtain ⟨h1, h2⟩ := T.passed hm
  obtain ⟨o, ho⟩ := Option.isSome_iff_exists.mp h2
  obtain ⟨a, b, e, l⟩ := filterMap_split hk
  refine ⟨I.p0, I.pt, fun r hr => ?_, fun v hv => ?_, ?_, I.nr, by simpa using I.nt1⟩
  · have R := I.rI r hr
    refine ⟨R.c0, R.cm, fun u hu => ⟨(R.th0 u hu).1, (R.th0 u hu).2.1, (R.th0 u hu).2.2.1, fun f hf => ?_⟩⟩
    rcases List.mem_append.mp hf with h | h
    · exact (R.th0 u hu).2.2.2 f h
    · rw [ho] at h
      have e2 : f = o := by simpa using h
      subst e2
      obtain ⟨j, hj⟩ := List.mem_iff_getElem?.mp hr
      rcases Int.lt_or_le f u with q | q
      · exact q
      · exact absurd hm (T.oldP f j r u ho hj hu q)
  · have V : TInv c s v := by
      rcases List.mem_or_eq_of_mem_set hv with hv | hv
      · exact I.tI v hv
      · rw [hv]
        refine ⟨fun _ => ⟨rfl, rfl, h1⟩, fun h => ?_, fun h => ?_, fun h => ?_, fun h => ?_, fun x h => ?_, fun o h => ?_, fun o j r' u h => ?_, fun o j r' u h => ?_, fun o j r' u h => ?_⟩
        all_goals simp at h
    exact ⟨V.idle, V.noting, V.noted, V.waiting, V.passed, V.rng, V.out0, V.oldN, V.oldW, V.oldP⟩
  · show ((s.fr ++ t.out.toList) ++ (s.ts.set k { t with md := .idle, nt := [], out := none }).filterMap (·.out)).Perm (rangeI s.place)
    have p := I.perm
    rw [e, ← l, set_split, filterMap_set]
    rw [e, filterMap_set] at p
    rw [ho] at p ⊢
    show ((s.fr ++ [o]) ++ (a.filterMap (fun t : Tk => t.out) ++ ([] ++ b.filterMap (fun t : Tk => t.out)))).Perm (rangeI s.place)
    refine List.Perm.trans ?_ p
    rw [List.append_assoc]
    refine List.Perm.append_left _ ?_
    show ([o] ++ (a.filterMap (fun t : Tk => t.out) ++ b.filterMap (fun t : Tk => t.out))).Perm (a.filterMap (fun t : Tk => t.out) ++ ([o] ++ b.filterMap (fun t : Tk => t.out)))
    rw [← List.append_assoc, ← List.append_assoc]
    exact List.Perm.append_right _ List.perm_append_comm

/-- THE PLAIN LAW: a possible move keeps the invariant -/
theorem inv_step {c : Cf} {s : St} (C : c.Ok) (I : Inv c s) {v : Mv} (h : v ∈ moves c s) : Inv c (step c s v) := by
  rcases mem_moves h with ⟨h1, r, h2, h3⟩ | ⟨h1, t, h2, h3⟩
  · unfold step
    rw [h1, h2]
    exact inv_r C I h2 h3
  · unfold step
    rw [h1, h2]
    dsimp only
    cases hd : v.d with
    | take => rw [hd] at h3; exact inv_take C I h2 h3
    | note => rw [hd] at h3; exact inv_note C I h2 h3
    | look => rw [hd] at h3; exact inv_look I h2 h3
    | free => rw [hd] at h3; exact inv_free I h2 h3
    | _ =>
      exfalso
      rw [hd] at h3
      unfold tDeeds at h3
      cases e : t.md <;> rw [e] at h3 <;> dsimp only at h3
      · split at h3
        · split at h3 <;> simp at h3
        · simp at h3
      · simp at h3
      · split at h3 <;> simp at h3
      · simp at h3
      · simp at h3
/-- the first state -/
def first (nr nt : Nat) : St := ⟨0, List.replicate nr ⟨0, false, none⟩, List.replicate nt ⟨.idle, 0, [], none⟩, []⟩
theorem inv_first {c : Cf} (C : c.Ok) {nr nt : Nat} (h1 : 1 ≤ nr) (h2 : 1 ≤ nt) : Inv c (first nr nt) := by
  have ht := C.t1
  have hm := C.m1
  refine ⟨Int.le_refl _, by show (0 : Int) ≤ c.things; omega, fun r hr => ?_, fun t ht => ?_, ?_, by simpa [first] using h1, by simpa [first] using h2⟩
  · have e : r = ⟨0, false, none⟩ := List.eq_of_mem_replicate hr
    subst e
    exact ⟨Int.le_refl _, by show (0 : Int) < c.m; omega, fun t h => by simp at h⟩
  · have e : t = ⟨.idle, 0, [], none⟩ := List.eq_of_mem_replicate ht
    subst e
    refine ⟨fun _ => ⟨rfl, rfl, rfl⟩, fun h => ?_, fun h => ?_, fun h => ?_, fun h => ?_, fun x h => ?_, fun o h => ?_, fun o j r' u h => ?_, fun o j r' u h => ?_, fun o j r' u h => ?_⟩
    all_goals simp at h
  · have e : (List.replicate nt (⟨.idle, 0, [], none⟩ : Tk)).filterMap (fun t : Tk => t.out) = [] := by
      rw [List.filterMap_eq_nil_iff]
      intro t ht
      rw [List.eq_of_mem_replicate ht]
    show (([] : List Int) ++ (List.replicate nt (⟨.idle, 0, [], none⟩ : Tk)).filterMap (fun t : Tk => t.out)).Perm (rangeI 0)
    rw [e]
    exact List.Perm.refl _
end EpM
namespace EpR
open PySem PySem.Spec L2
open PyProof.Rows hiding St
theorem tuple_mul1 (l : Addr) (items : Array Value) (n : Nat) (dd : Option Addr) (sl : Array (Option Value)) (u : Tok) :
    Meets (Builtin.«tuple.__mul__» ⟨[.ref l, .int 1 u], []⟩) (fun _ R s => s.heap.get? l = some { cls := .type "tuple", dict := dd, data := .seq items n, slots := sl } ∧ R (.ok (.ret (Value.ref l))) s) :=
  .of_wp fun prog w A R s h => by
    obtain ⟨hp, g, d, tk, os⟩ := s
    obtain ⟨hl, h⟩ := h
    have f1 := AutoSeq1.idx_int
    wp_walk using wpAny_loadPart' hl
    repeat (first
      | (refine wpAny_ite_false (by decide) ?_; wp_walk using wpAny_loadPart' hl)
      | (refine wpAny_ite_true (by simp) ?_; wp_walk using wpAny_loadPart' hl))
    exact ⟨_, rfl, h⟩
/-- tuple * int, the int from 1 -/
def rRep1 (K : PySem.W.Frag) : R2 := fun x y H Q => ∃ l k xs, x = .ref l ∧ y = .int k ∧ SqT K H l xs ∧ xs ≠ [] ∧ 1 ≤ k ∧ k ≤ 1000 ∧ xs.length ≤ 1000 ∧ (k = 1 → Q (.ref l) H) ∧ (2 ≤ k → ∀ p, H p = none → Q (.ref p) (upd H p (.tup (List.replicate k.toNat xs).flatten)))
theorem op_rep1 {X : Cx} : OpR X (binaryOp .Mult) (rRep1 X.K) := by
  intro pins s σ H x y v u Q I rx ry h
  obtain ⟨l, k, xs, rfl, rfl, hT, hne, h1, h2, hz, q1, q2⟩ := h
  by_cases hk : k = 1
  · subst hk
    cases rx
    obtain ⟨t, rfl⟩ := ry
    obtain ⟨its, r, ⟨⟨cls, dd, data, sl⟩, ho, hc, n, hd⟩, hs⟩ := I.tuple hT
    simp only at hc hd
    subst hc hd
    exact wpAny_binaryOp_repeat_ref (T := "tuple") (U := "int") (by decide) ⟨_, ho, rfl⟩ (fun s' => typeIs_int s' 1 t) noFill_tuple_mul F.fills_int_mul F.slot_int_rmul repeat_tuple F.slot_int_index.lookup
      (call_meets F.slot_int_rmul (typeIs_int s 1 t) F.entry_int_rmul (F.args_int_rmul_2 _ _) (int_rmul_tuple 1 t l its.toArray n dd sl)
        ⟨ho, rfl, ⟨_, ho, rfl⟩, call_meets F.slot_tuple_mul ⟨_, ho, rfl⟩ F.entry_tuple_mul (F.args_tuple_mul_2 _ _) (tuple_mul1 l its.toArray n dd sl t) ⟨ho, .ref l, H, I, rfl, q1 rfl⟩⟩)
  · exact op_repT pins s σ H _ _ v u Q I rx ry ⟨l, k, xs, rfl, rfl, hT, hne, by omega, h2, hz, q2 (by omega)⟩
end EpR
namespace EpR
open PySem PySem.Spec L2
open PyProof.Rows hiding St
theorem srt_t (a : Addr) : Builtin.«list.sort» ⟨[.ref a], [(Str.ofString "key", .type "int")]⟩ = PyProof.Rows.ksk_tree a (.type "int") false := rfl
theorem each_ints : ∀ {ns : List Int} {its : List Value}, Vals (ns.map V.int) its → PySem.W.EachIs (fun v n => ∃ t, v = Value.int n t) its ns
  | [], _, .nil => .nil
  | n :: ns, _, .cons r t => .cons r (each_ints t)
theorem each_back : ∀ {ns : List Int} {its : List Value}, PySem.W.EachIs (fun v n => ∃ t, v = Value.int n t) its ns → Vals (ns.map V.int) its
  | [], _, .nil => .nil
  | n :: ns, _, .cons r t => .cons r (each_back t)
/-- sorted(xs, key=int), xs whole numbers -/
def rSortedKeyInt (K : PySem.W.Frag) : List V → List V → Hp → VK → Prop := fun vs zs H Q => ∃ (a : Addr) (ns : List Int), vs = [V.ref a] ∧ zs = [V.ty "int"] ∧ SqL K H a (ns.map V.int) ∧
  ∀ (ns' : List Int) (p : Addr), ns'.Perm ns → ns'.Pairwise (· ≤ ·) → H p = none → Q (.ref p) (upd H p (.lst (ns'.map V.int)))
theorem cr_sortedKeyInt {X : Cx} (hu : X.A.units + 64 < cLine) : CallRK X (.builtin "sorted") [Str.ofString "key"] (rSortedKeyInt X.K) := by
  intro pins s σ H vs zs us ws Q I r rz h
  obtain ⟨a, ns, rfl, rfl, hs, q⟩ := h
  obtain rfl := Vals.ref1 r
  obtain ⟨w1, rfl, e1⟩ := vals1 rz
  obtain rfl : w1 = Value.type "int" := e1
  obtain ⟨its, rv, hl, hz⟩ := I.list hs
  have hE := each_ints rv
  have hlen : ns.length ≤ sizeLine := by
    rw [List.length_map] at hz
    exact hz
  refine PySem.W.sorted_key_data (fun n : Int => PyData.int n) (b := false) hl.isList hE (PySem.W.AllAlike.of fun _ _ => rfl) (PySem.W.Sortable.others fun n => ⟨(fun z => nomatch z), (fun xs z => nomatch z)⟩) hlen
    (fun x _ => by show X.A.units + 2 + 0 < cLine; omega) (PyProof.Rows.ksk_s1 _ _) (fun _ => PyProof.Rows.ksk_l1 _ _) srt_t (fun v n hv _ h tk kp => ?_) fun out c h' tk kp fresh hout hol hO => ?_
  · obtain ⟨t, rfl⟩ := hv
    exact call_int_int ⟨h, tk, rfl, fun _ _ e => e, .int n t⟩
  · rw [PySem.W.dataLe_int (fun n : Int => n)] at hO
    have hp : (ns.mergeSort fun a b => decide (a ≤ b)).Perm ns := List.mergeSort_perm ns _
    have hw : (ns.mergeSort fun a b => decide (a ≤ b)).Pairwise (· ≤ ·) := by
      have z := List.pairwise_mergeSort (le := fun a b : Int => decide (a ≤ b)) (fun a b c h1 h2 => by
        have := of_decide_eq_true h1
        have := of_decide_eq_true h2
        exact decide_eq_true (by omega)) (fun a b => by
        rcases Int.le_total a b with h | h
        · simp [h]
        · simp [h]) ns
      exact z.imp fun h => of_decide_eq_true h
    have hz' : ((ns.mergeSort fun a b => decide (a ≤ b)).map V.int).length ≤ sizeLine := by
      rw [List.length_map, hp.length_eq]
      exact hlen
    exact ⟨.ref _, upd H (s.heap.objs.size + 1) (.lst ((ns.mergeSort fun a b => decide (a ≤ b)).map V.int)), I.laid (t' := tk) kp (Nat.le_succ _) ⟨hz', out, c, each_back hO, hout⟩, rfl, q _ _ hp hw (I.hok.fresh (Nat.le_succ _))⟩
end EpR
namespace EpR
open PySem PySem.Spec L2
open PyProof.Rows hiding St
section
variable {prog : Program} {w : World} {K : Type} [DecidableEq K] {knd : PySem.KeyKind prog w K} {A : Around} {E : Value → Shared → Prop} {s : Shared}
theorem wpAny_dictPut_pairs {d : Addr} {kvs : List (K × Value)} {k : K} {key v : Value} {Q : Unit → Shared → Prop} (hkey : knd.is k key = true) (hm : s.heap.DictOf knd d kvs)
    (hQ : ∀ h', h'.DictOf knd d (stored kvs k v) → Heap.SameBut d s.heap h' → Q () { s with heap := h' })
    (hsz : kvs.length ≤ sizeLine := by size_fits) :
    wpAny (model prog w) A (dictPut d (knd.hash k) key v) Q E s := by
  obtain ⟨o, es, ep, ho, hc, hd, hk, hp, hn⟩ := hm
  have hes : es.size ≤ sizeLine := by have e1 := hp.length; have e2 : es.toList.length = es.size := by simp
                                      omega
  unfold dictPut
  refine wpAny_bind (wpAny_dictFind_of hkey ho hd hk ?_)
  have hidx : (es.findIdx? fun e => knd.is k e.key) = kvs.findIdx? fun kv => decide (kv.1 = k) := by
    rw [← hp.findIdx k]; obtain ⟨l⟩ := es; simp
  cases hi : es.findIdx? fun e => knd.is k e.key with
  | some i =>
    refine wpAny_updateDict ho hd (hQ _ ⟨_, _, ep, Heap.get?_update_self _ ho (Obj.isFreed_of_dict (Obj.data_mapDict hd _)),
      hc.mapDict _, Obj.data_mapDict hd _, hk.modify _ _, ?_, ?_⟩ (Heap.SameBut.update ..))
    · rw [stored, if_pos (any_of_findIdx_some (hidx ▸ hi))]
      have hl : (es.toList.findIdx? fun e => knd.is k e.key) = some i := by rw [← hi]; obtain ⟨l⟩ := es; simp
      have := hp.modify hn hl v
      obtain ⟨l⟩ := es
      simpa using this
    · rw [stored, if_pos (any_of_findIdx_some (hidx ▸ hi)), keys_map_store]; exact hn
  | none =>
    have hnot : k ∉ kvs.map (·.1) := not_mem_of_findIdx_none (hidx ▸ hi)
    have hany : ¬ (kvs.any fun kv => decide (kv.1 = k)) = true := by
      rw [List.any_eq_true]; rintro ⟨kv, hkv, he⟩
      exact hnot (List.mem_map.mpr ⟨kv, hkv, of_decide_eq_true he⟩)
    refine wpAny_updateDictKeys (hz := hes) ho hd (hQ _ ⟨_, _, ep + 1, Heap.get?_update_self _ ho (Obj.isFreed_of_dict (Obj.data_mapDictKeys hd _)),
      hc.mapDictKeys _, Obj.data_mapDictKeys hd _, hk.push hkey _, ?_, ?_⟩ (Heap.SameBut.update ..))
    · rw [stored, if_neg hany]
      have := hp.append hkey (knd.hash k) v
      obtain ⟨l⟩ := es
      simpa using this
    · rw [stored, if_neg hany, List.map_append, List.nodup_append]
      refine ⟨hn, by simp, ?_⟩
      intro a ha b hb
      simp only [List.map_cons, List.map_nil, List.mem_singleton] at hb
      subst hb
      exact fun e => hnot (e ▸ ha)
/-- ** of an exact dict into another one -/
theorem wpAny_mergeMapping_pairs {d o : Addr} {kvs more : List (K × Value)} {Q : Unit → Shared → Prop} (hdo : d ≠ o) (hoS : (o == sysModules) = false)
    (hd : s.heap.DictOf knd d kvs) (ho : s.heap.DictOf knd o more)
    (hQ : ∀ h', h'.DictOf knd d (merged kvs more) → Heap.SameBut d s.heap h' → Q () { s with heap := h' })
    (hsz : kvs.length + more.length ≤ sizeLine := by size_fits) :
    wpAny (model prog w) A (mergeMapping d (.ref o) false) Q E s := by
  obtain ⟨od, esd, epd, hod, hcd, hdd, hkd, hpd, hnd⟩ := id hd
  obtain ⟨oo, eso, epo, hoo, hco, hdo', hko, hpo, hno⟩ := id ho
  have hlen : more.length = eso.size := by rw [← hpo.length]; simp
  unfold mergeMapping
  refine wpAny_bind (wpAny_bind (wpAny_typeOf ho.typeIs (wpAny_of_eq isSubtype_dict_dict ?_)))
  rw [if_pos rfl]
  refine wpAny_bind (wpAny_specialOf ho.typeIs F.slot_dict_iter.lookup (wpAny_bind (wpAny_pure ?_)))
  have hb : ((some (Value.builtin "dict.__iter__") : Option Value) == some (.builtin "dict.__iter__")) = true := by simp
  rw [hb]
  dsimp only
  rw [if_neg (by rw [hoS]; exact Bool.false_ne_true)]
  have loop : wpAny (model prog w) A (do
      let size := (← dictEntries o).size
      let epoch ← dictEpoch o
      forIn (List.range size) PUnit.unit fun i (_ : PUnit) => (do
          let l' ← dictEntries o
          match l'[i]? with
            | some e => do
              holding [e.key, e.val] (dictPut d e.hash e.key e.val)
              let ep' ← dictEpoch o
              if (ep' != epoch) = true then do
                  (unsupported "dict.changed-during-merge" : Sem PUnit)
                  pure (ForInStep.yield PUnit.unit)
                else pure (ForInStep.yield PUnit.unit)
            | _ => do
              (unsupported "dict.changed-during-merge" : Sem PUnit)
              pure (ForInStep.yield PUnit.unit) : Sem (ForInStep PUnit))
      pure ()) Q E s := by
    refine wpAny_bind (wpAny_dictEntries hoo hdo' ?_)
    dsimp only
    refine wpAny_bind (wpAny_dictEpoch hoo hdo' ?_)
    refine wpAny_bind ?_
    rw [List.range_eq_range']
    refine wpAny_forIn_list _
      (fun rest _ s' => ∃ h' i, s' = { s with heap := h' } ∧ rest = List.range' i (eso.size - i) ∧ i ≤ eso.size ∧ h'.DictOf knd d (merged kvs (more.take i)) ∧ h'.get? o = some oo ∧ Heap.SameBut d s.heap h')
      _ ?_ ?_ _ _ ⟨s.heap, 0, rfl, by simp, Nat.zero_le _, by simpa [merged] using hd, hoo, Heap.SameBut.refl _ _⟩
    · rintro x rest b s' ⟨h', i, rfl, hr, hi, hd', hoo', hs'⟩
      have hlt : i < eso.size := by
        rcases Nat.lt_or_ge i eso.size with h | h
        · exact h
        · rw [Nat.sub_eq_zero_of_le h] at hr; simp at hr
      obtain ⟨rfl, hrest⟩ : x = i ∧ rest = List.range' (i + 1) (eso.size - (i + 1)) := by
        have e : eso.size - i = (eso.size - (i + 1)) + 1 := by omega
        rw [e, List.range'_succ] at hr
        injection hr with h1 h2
        exact ⟨h1, h2⟩
      refine wpAny_bind (wpAny_dictEntries hoo' hdo' ?_)
      rw [Array.getElem?_eq_getElem hlt]
      obtain ⟨kv, hkv⟩ : ∃ kv, more[x]? = some kv := ⟨more[x]'(by rw [hlen]; exact hlt), List.getElem?_eq_getElem _⟩
      obtain ⟨k, v⟩ := kv
      obtain ⟨hkey, hval⟩ := hpo.get? (e := eso[x]) (by simp [hlt]) hkv
      obtain ⟨k', hkey', hhash⟩ := hko eso[x] (Array.getElem_mem hlt)
      obtain rfl : k' = k := knd.inj _ _ _ hkey' hkey
      show wpAny _ _ (holding [eso[x].key, eso[x].val] (dictPut d eso[x].hash eso[x].key eso[x].val) >>= _) _ _ _
      rw [hhash, hval]
      have hmx : (merged kvs (more.take x)).length ≤ sizeLine := by
        have e1 := merged_length_le kvs (more.take x)
        have e2 : (more.take x).length ≤ more.length := by rw [List.length_take]; omega
        omega
      refine wpAny_bind (wpAny_holding (wpAny_dictPut_pairs (hsz := hmx) hkey hd' fun h'' hd'' hs'' => ?_))
      have hoo'' : h''.get? o = some oo := (hs''.2 o (Ne.symm hdo)).trans hoo'
      refine wpAny_bind (wpAny_dictEpoch hoo'' hdo' ?_)
      rw [if_neg (by simp)]
      exact wpAny_pure ⟨h'', x + 1, rfl, hrest, hlt, by rw [merged_take_succ kvs more x (k', v) hkv]; exact hd'', hoo'', hs'.trans hs''⟩
    · rintro b s' ⟨h', i, rfl, hr, hi, hd', hoo', hs'⟩
      have hin : i = eso.size := by
        rcases Nat.lt_or_ge i eso.size with h | h
        · have e : eso.size - i = (eso.size - (i + 1)) + 1 := by omega
          rw [e, List.range'_succ] at hr; exact nomatch hr
        · exact Nat.le_antisymm hi h
      refine wpAny_pure (hQ h' ?_ hs')
      rw [hin, ← hlen, List.take_length] at hd'; exact hd'
  refine wpAny_bind (wpAny_dictEntries hod hdd ?_)
  by_cases hemp : esd.isEmpty = true
  · rw [if_pos hemp]
    refine wpAny_bind (wpAny_dictEntries hoo hdo' ?_)
    have hloop : (forIn eso PUnit.unit fun e (_ : PUnit) => (match e.key with
        | .ref _ => do
          let r ← specialOf e.key "__eq__"
          if (r != some (.builtin "object.__eq__")) = true then
            if (eso.filter (·.hash == e.hash)).size > 1 then (do let _ ← (unsupported "dict.merge-into-an-empty-dict:keys-of-equal-hash" : Sem PUnit); pure (ForInStep.yield PUnit.unit)) else pure (ForInStep.yield PUnit.unit)
          else pure (ForInStep.yield PUnit.unit)
        | _ => pure (ForInStep.yield PUnit.unit) : Sem (ForInStep PUnit))) = pure PUnit.unit := by
      rw [← Array.forIn_toList]
      refine forIn_yield_id _ fun e he c => ?_
      obtain ⟨k, hkey, _⟩ := hko e (Array.mem_toList_iff.mp he)
      have := knd.byValue k _ hkey
      cases hv : e.key with
      | ref a => rw [hv] at this; exact nomatch this
      | _ => rfl
    exact wpAny_bind (wpAny_of_eq hloop loop)
  · rw [if_neg hemp]
    exact loop
end
end EpR
namespace EpR
open PySem PySem.Spec L2
open PyProof.Rows hiding St
section
variable {prog : Program} {w : World} {A : Around} {E : Value → Shared → Prop} {s : Shared}
theorem disp_spread {tm tk tv : Sem Value} {Q : Value → Shared → Prop}
    (h : wpAny (model prog w) A tm (fun m s1 => wpAny (model prog w) A (mergeMapping s.heap.objs.size m false) (fun _ s2 => wpAny (model prog w) A (subDict [(tk, tv)]) (fun sub s3 => wpAny (model prog w) A (mergeMapping s.heap.objs.size (.ref sub) false) (fun _ s4 => Q (.ref s.heap.objs.size) s4) (fun _ _ => False) s3) E s2) (fun _ _ => False) s1) E
      { s with heap := s.heap.push { cls := .type "dict", data := .dict #[] } }) :
    wpAny (model prog w) A (dictDisplay [(none, tm), (some tk, tv)]) Q E s := by
  unfold dictDisplay
  simp only [List.forIn_cons, List.forIn_nil, List.isEmpty_nil, if_true, pure_bind, bind_assoc, List.nil_append]
  refine wpAny_bind (wpAny_alloc ?_)
  refine wpAny_bind (wpAny_holding (wpAny_mono h (fun m s1 h1 => ?_) fun _ _ e => e))
  refine wpAny_bind (wpAny_onRaise (wpAny_tryCatch (wpAny_onRaise (wpAny_holding (wpAny_mono h1 (fun _ s2 h2 => ?_) fun _ _ e => e.elim)))))
  refine wpAny_bind ?_
  rw [if_neg (by simp)]
  refine wpAny_pure ?_
  dsimp only
  refine wpAny_bind (wpAny_pure ?_)
  dsimp only
  refine wpAny_bind ?_
  rw [if_neg (by simp)]
  refine wpAny_bind (wpAny_holding (wpAny_mono h2 (fun sub s3 h3 => ?_) fun _ _ e => e))
  refine wpAny_bind (wpAny_onRaise (wpAny_holding (wpAny_mono h3 (fun _ s4 h4 => ?_) fun _ _ e => e.elim)))
  exact wpAny_pure (wpAny_pure h4)
end
end EpR
namespace EpR
open PySem PySem.Spec L2
open PyProof.Rows hiding St
section
variable {X : Cx} {de ke ve : Expr} {td tk tv : TE} {pos : Pos}
def tSpread (td tk tv : TE) : TE := fun σ H Q => ∀ p, H p = none → td σ (upd H p (.dK [])) fun x H1 => ∃ (a : Addr) (kvs : List (Key × V)), x = .ref a ∧ a ≠ p ∧ H1 p = some (.dK []) ∧ H1 a = some (.dK kvs) ∧ kvs.length ≤ 1000 ∧
  ∀ q, upd H1 p (.dK kvs) q = none → tk σ (upd (upd H1 p (.dK kvs)) q (.dK [])) fun key H2 => tv σ H2 fun val H3 => ∃ kk : Key, key = kV kk ∧ H3 q = some (.dK []) ∧ H3 p = some (.dK kvs) ∧ q ≠ p ∧ Q (.ref p) (upd (upd H3 q (.dK [(kk, val)])) p (.dK (putK kvs kk val)))
theorem pe_spread (hd : PE X de td) (hk : PE X ke tk) (hv : PE X ve tv)
    (hz : (evalEachOpt [none, some ke] X.env).zip ((evalEach [de, ve] X.env).map fun v => do let x ← v; standAt pos; pure x) = [(none, do let x ← eval de X.env; standAt pos; pure x), (some (eval ke X.env), do let x ← eval ve X.env; standAt pos; pure x)] := by rfl) :
    PE X (.Dict [none, some ke] [de, ve] pos) (tSpread td tk tv) := by
  refine ⟨fun pins s σ H Q I h => ?_⟩
  have hn := I.hok.fresh (Nat.le_refl s.heap.objs.size)
  have I1 := I.laid (a := s.heap.objs.size) (o := .dK []) (h' := s.heap.push { cls := .type "dict", data := .dict #[] }) (t' := s.toks) (fun _ _ q => Heap.get?_push_of_some _ q) (Nat.le_refl _) (dk_empty s.heap I.big)
  rw [arm_eval_Dict, hz]
  refine wpAny_bind (wpAny_standAt ?_)
  refine disp_spread ?_
  refine wpAny_bind (thn (hd.run pins _ σ _ _ I1 (h _ hn)) fun m s1 ⟨x, H1, I2, rx, a, kvs, ex, hap, hp, ha, hl, q1⟩ => wpAny_bind (wpAny_standAt (wpAny_pure ?_)))
  subst ex
  obtain rfl : m = Value.ref a := rx
  obtain ⟨z1, n1, vs1, r1, dd1⟩ := dk_of I2.hok hp
  cases r1
  obtain ⟨z2, n2, vs2, r2, dd2⟩ := dk_of I2.hok ha
  have l2 : vs2.length = kvs.length := r2.length.symm
  refine wpAny_mergeMapping_pairs (knd := mixKind X.prog X.w) (Ne.symm hap) n2 dd1 dd2 (fun h' dd' hs => ?_) (by rw [List.length_nil, l2, sizeLine_eq]; omega)
  obtain ⟨_, _, _, _, _, _, _, _, nd2⟩ := id dd2
  rw [merged_nil_of_nodup vs2 nd2] at dd'
  have he : ∃ q, h'.get? s.heap.objs.size = some q := let ⟨q, _, _, hq, _⟩ := dd'; ⟨q, hq⟩
  have I3 := d_write (t' := s1.toks) I2 (by rw [hp]; exact True.intro) hs he (dk_new (by rw [sizeLine_eq]; omega) n1 r2 dd')
  -- the second part
  refine wpAny_subDict (knd := mixKind X.prog X.w) (by show 1 ≤ 15; decide) ?_
  have hn3 := I3.hok.fresh (Nat.le_refl h'.objs.size)
  have I4 := I3.laid (a := h'.objs.size) (o := .dK []) (h' := h'.push { cls := .type "dict", data := .dict #[] }) (t' := s1.toks) (fun _ _ q => Heap.get?_push_of_some _ q) (Nat.le_refl _) (dk_empty h' I3.big)
  refine evalPairs_cons (thn (hk.run pins _ σ _ _ I4 (q1 _ hn3)) fun key s4 ⟨kx, H2, I5, rk, q2⟩ => wpAny_bind (thn (hv.run pins s4 σ H2 _ I5 q2) fun val s5 ⟨vx, H3, I6, rv, kk, ek, hq, hp3, hne, q3⟩ => wpAny_bind (wpAny_standAt (wpAny_pure (evalPairs_nil ?_)))))
  subst ek
  obtain ⟨z5, n5, vs5, r5, dd5⟩ := dk_of I6.hok hq
  cases r5
  refine ⟨[(kk, val)], ⟨kV_is rk, rfl, True.intro⟩, dd5, fun h5 dd6 hs6 => ?_⟩
  have e6 : merged ([] : List (Key × Value)) [(kk, val)] = [(kk, val)] := merged_nil_of_nodup _ (by simp)
  rw [e6] at dd6
  have r6 : KV [(kk, vx)] [(kk, val)] := .cons ⟨rfl, rv⟩ .nil
  have he6 : ∃ q, h5.get? h'.objs.size = some q := let ⟨q, _, _, hq, _⟩ := dd6; ⟨q, hq⟩
  have I7 := d_write (t' := s5.toks + 1) I6 (by rw [hq]; exact True.intro) hs6 he6 (dk_new (by rw [sizeLine_eq]; simp) n5 r6 dd6)
  have hp7 : (upd H3 h'.objs.size (.dK [(kk, vx)])) s.heap.objs.size = some (.dK kvs) := by rw [upd_ne (Ne.symm hne)]; exact hp3
  obtain ⟨z7, n7, vs7, r7, dd7⟩ := dk_of I7.hok hp7
  have hq7 : (upd H3 h'.objs.size (.dK [(kk, vx)])) h'.objs.size = some (.dK [(kk, vx)]) := upd_same
  have l7 : vs7.length = kvs.length := r7.length.symm
  refine wpAny_mergeMapping_pairs (s := { s5 with heap := h5, toks := s5.toks + 1 }) (knd := mixKind X.prog X.w) (Ne.symm hne) n5 dd7 dd6 (fun h8 dd8 hs8 => ?_) (by rw [l7, sizeLine_eq]; show kvs.length + 1 ≤ _; omega)
  have he8 : ∃ q, h8.get? s.heap.objs.size = some q := let ⟨q, _, _, hq, _⟩ := dd8; ⟨q, hq⟩
  have r8 : KV (putK kvs kk vx) (merged vs7 [(kk, val)]) := r7.put kk rv
  have hl8 : (putK kvs kk vx).length ≤ sizeLine := by
    have := length_putK kvs kk vx
    rw [sizeLine_eq]
    omega
  have I9 := d_write (t' := s5.toks + 1) I7 (by rw [hp7]; exact True.intro) hs8 he8 (dk_new hl8 n7 r8 dd8)
  exact ⟨.ref s.heap.objs.size, _, I9, rfl, q3⟩
end
end EpR
namespace EpR
open PySem PySem.Spec L2
open PyProof.Rows hiding St
/-- the context of a def that holds __class__ (no cells of its own), at its entry -/
def cxS (P : Program) (w : World) (K : PySem.W.Frag) (mg : Str → Option Value) (base : Heap) (N : List Str) (qual : Str) (scope : Scope) (f : Addr) (cd : Value) (cc : Addr) (A : Around) (outer : List Env) (s : Shared) (H : Hp) : Cx where
  prog := P
  w := w
  K := K
  mg := mg
  base := base
  A := A.deeper (PySem.W.ksEnv qual scope s.heap.objs.size f cd cc)
  N := N
  s_0 := s
  H_0 := H
  env := PySem.W.ksEnv qual scope s.heap.objs.size f cd cc
  outer := outer
  stack := PySem.W.ksEnv qual scope s.heap.objs.size f cd cc :: outer
  ex := []
  calm := true
  fn := fun _ => false
  pn := []
  xe := fun _ _ => False
structure SupScope (N : List Str) (sc : Scope) : Prop where
  kind : sc.kind = .function
  co : sc.isCoroutine = false
  gen : sc.isGenerator = false
  nd : N.Nodup
  par : ∀ x ∈ N, sc.names.lookup x = some .local
  nocell : ∀ y ∈ sc.names, y.2 ≠ .cell
  free : ∀ x, sc.names.lookup x = some .free → x = "__class__"
  cls : sc.names.lookup ("__class__" : Str) = some .free
  sup : sc.names.lookup ("super" : Str) = some .globalImplicit
section
variable {P : Program} {w : World} {K : PySem.W.Frag} {mg : Str → Option Value} {base : Heap} {k : Nat} {f f2 D cc cda : Addr} {name qual : Str} {params : Arguments} {body : List Stmt} {scope : Scope} {dV kV doc pm ct oc : Value} {an od : Option Addr}
  {osl : Array (Option Value)} {N ps2 : List Str} {fd2 : FuncData} {sp sp2 : Sp}
theorem zip_rev_get {α : Type} : ∀ {N : List Str} {us : List α} {i : Nat} {x : Str} {u : α}, N.Nodup → N[i]? = some x → us[i]? = some u → ((N.zip us).reverse.lookup x) = some u := by
  intro N us i x u nd h1 h2
  have hm : (x, u) ∈ (N.zip us).reverse := by
    rw [List.mem_reverse]
    have : (N.zip us)[i]? = some (x, u) := by
      rw [List.getElem?_zip_eq_some]
      exact ⟨h1, h2⟩
    exact List.mem_of_getElem? this
  have uniq : ∀ l : List (Str × α), (l.map (·.1)).Nodup → (x, u) ∈ l → l.lookup x = some u := by
    intro l
    induction l with
    | nil => intro _ h; simp at h
    | cons p r ih =>
      intro hn h
      obtain ⟨a, b⟩ := p
      rw [List.map_cons, List.nodup_cons] at hn
      rcases List.mem_cons.mp h with h | h
      · injection h with e1 e2
        subst e1
        subst e2
        simp [List.lookup]
      · have ne : ¬ x = a := fun e => hn.1 (by rw [← e]; exact List.mem_map.mpr ⟨(x, u), h, rfl⟩)
        have hb : (x == a) = false := beq_eq_false_iff_ne.mpr ne
        simp only [List.lookup, hb]
        exact ih hn.2 h
  refine uniq _ ?_ hm
  rw [List.map_reverse]
  have key : ((N.zip us).map (·.1)).Nodup := by
    refine List.Sublist.nodup ?_ nd
    clear hm uniq h1 h2 nd
    induction N generalizing us with
    | nil => simp
    | cons a r ih =>
      cases us with
      | nil => simp
      | cons b bs => simpa using ih
  exact List.pairwise_reverse.mpr (key.imp fun h => Ne.symm h)
theorem inv_sup {A : Around} {outer : List Env} {s : Shared} {H : Hp} {us : List Value} {vs : List V} {h₀ : Heap} {tk : Nat} {csl : Array (Option Value)} {cl : Value} {cld : Option Addr} (S : SupScope N scope) (hd : A.handled = none) (e0 : Env0 P w K mg base A outer s H) (hl : vs.length = N.length) (r : Vals vs us)
    (hcell : K.lookup cc = some ⟨cl, cld, .cell (some (.ref D)), csl⟩) (hns : h₀.Ns s.heap.objs.size (fun x => (N.zip us).reverse.lookup x)) (hk : ∀ b o, s.heap.get? b = some o → h₀.get? b = some o) {cd : Value} :
    Inv (cxS P w K mg base N qual scope f cd cc A outer s H) [] (vs.map some) H { s with heap := h₀, toks := tk } := by
  have KX : K.In base := e0.mod.kin
  have noA : ∀ b : Addr, b ∉ (cxS P w K mg base N qual scope f cd cc A outer s H).ex := fun b z => absurd (show b ∈ ([] : List Addr) from z) (by simp)
  have lk1 : ∀ x c, (PySem.W.ksEnv qual scope s.heap.objs.size f cd cc).cells.lookup x = some c → x = "__class__" ∧ c = cc := by
    intro x c h
    have h' : (match x == ("__class__" : Str) with | true => some cc | false => none) = some c := h
    cases q : x == ("__class__" : Str) with
    | true =>
      rw [q] at h'
      exact ⟨beq_iff_eq.mp q, (Option.some.inj h').symm⟩
    | false =>
      rw [q] at h'
      cases h'
  have hcc : base.get? cc = some ⟨cl, cld, .cell (some (.ref D)), csl⟩ := KX _ _ hcell
  have hccs := e0.bs _ _ hcc
  refine ⟨⟨e0.mod, S.kind, rfl, rfl, Nat.le_refl _, fun y z c h1 h2 => ?_, fun y hy => ?_, fun y c h => ?_, fun _ => hd, Around.frames_deeper e0.frames, .inr ⟨rfl, rfl⟩, fun b z => absurd z (noA b), e0.bs, e0.bsz, fun b _ _ => noA b, fun b z => absurd z (noA b), e0.funs, e0.frf⟩,
    rfl, e0.bare, Un.kept hk, ⟨_, hns, fun i y v h1 h2 h3 => ?_⟩, fun y c h => ?_, e0.hok.fresh (Nat.le_refl _), fun y c h => ?_, fun p hp => absurd (show p ∈ ([] : List (Addr × Obj)) from hp) (by simp), e0.hok.kept hk, ?_⟩
  · rw [(lk1 _ _ h1).1, (lk1 _ _ h2).1]
  · have hy : scope.names.lookup y = some .cell ∨ scope.names.lookup y = some .free := hy
    rcases hy with hy | hy
    · exact absurd rfl (S.nocell _ (PySem.mem_of_lookup hy))
    · rw [S.free y hy]
      exact ⟨cc, rfl⟩
  · exact nomatch h
  · have h2' : (vs.map some)[i]? = some (some v) := h2
    rw [List.getElem?_map] at h2'
    have ha : vs[i]? = some v := by
      cases e : vs[i]? with
      | none => rw [e] at h2'; cases h2'
      | some a => rw [e] at h2'; cases h2'; rfl
    obtain ⟨u, hu, rv⟩ := r.get ha
    refine ⟨u, rv, .inl ⟨S.par y (List.mem_of_getElem? (show N[i]? = some y from h1)), ?_⟩⟩
    exact zip_rev_get S.nd h1 hu
  · obtain ⟨_, ec⟩ := lk1 _ _ h
    rw [ec]
    exact ⟨_, _, hk _ _ hccs.1, rfl⟩
  · obtain ⟨_, ec⟩ := lk1 _ _ h
    rw [ec]
    exact hccs.2
  · show (vs.map some).length = N.length
    rw [List.length_map]
    exact hl
/-- def __init__(self, ..): super().__init__(arg), the class's own def one up -/
theorem fn_super {keys : List (Option Expr)} {values : List Expr} {p0 p1 apos dpos pos pos' : Pos} {ta : TE} {ar : Arg} {vs0 : Array Value} {file : Str} {tf : Tok} {ccl cl : Value} {cdd cld : Option Addr} {ccs csl : Array (Option Value)} {cdD : ClassData}
    (lk : K.lookup f = some ⟨oc, od, .func (PySem.W.ksFn name qual params body scope dV kV doc pm an (.ref cda) ct cc), osl⟩) (hcd : PySem.W.codeIn K (.ref cda) qual = true)
    (hb : body = [.Expr (.Call (.Attribute (.Call (.Name "super" p0) [] [] p1) "__init__" apos) [.Dict keys values dpos] [] pos) pos'])
    (S : SupScope N scope) (hp : (params.posonlyargs ++ params.args).head? = some ar) (hN : N[0]? = some ar.arg)
    (hcode : K.lookup cda = some ⟨ccl, cdd, .fields vs0, ccs⟩) (hvs : vs0[2]? = some (.str file tf)) (hfile : ((P.main.file : Str) == file) = true)
    (hcell : K.lookup cc = some ⟨cl, cld, .cell (some (.ref D)), csl⟩) (hD : PySem.W.clsIn K D = some cdD) (hsub : PySem.W.mroIn K D (.ref D) = some true) (hsuper : mg "super" = none)
    (htop : (P.main.scope.names.lookup ("super" : Str)).isSome = false) (hboot : bootBuiltins "super" = some (.type "super")) (ho : PySem.W.nsIn K PySem.cStatics "thirdparty.any" = some none)
    (hm : PySem.W.alongIn K "__init__" ((cdD.mro.dropWhile (· != .ref D)).drop 1) = some (some (.ref f2))) (ht : PySem.W.typeIn K (.ref f2) = some (.type "function")) (hfi : PySem.W.fnIn K f2 = true)
    (ha : ∀ (A : Around) (outer : List Env) (s : Shared) (H : Hp), PE (cxS P w K mg base N qual scope f (.ref cda) cc A outer s H) (.Dict keys values dpos) ta)
    (F2 : FnOk P w K mg base CX0 k f2 fd2 ps2 sp2) (b2 : Binds K fd2 ps2 []) (len : ∀ vs H Q E, sp vs H Q E → vs.length = N.length)
    (hpl : ∃ pl : Env → Sem Bool, ∀ env : Env, env.scope = scope → eval (.Call (.Attribute (.Call (.Name "super" p0) [] [] p1) "__init__" apos) [.Dict keys values dpos] [] pos) env = (do
      let ov ← attributeBase (.Call (.Name "super" p0) [] [] p1) "__init__" env (eval (.Call (.Name "super" p0) [] [] p1) env)
      standAt apos.atName
      let (f, first) ← holding [ov] (getMethod ov "__init__" (pl env))
      callWith pos f first (backTo pos (starEach [.Dict keys values dpos] env)) []))
    (hsp : ∀ vs H Q E, sp vs H Q E → ∃ a dx fs, vs[0]? = some (.ref a) ∧ H a = some (.ins D dx fs) ∧ ta (vs.map some) H fun x H1 => sp2 [.ref a, x] H1 (fun _ H2 => Q .non H2) E0) :
    FnOk P w K mg base CX0 (k + 1) f (PySem.W.ksFn name qual params body scope dV kV doc pm an (.ref cda) ct cc) N sp := by
  refine ⟨len, fun A outer s H args us vs Q E hr e0 hbd r hsp0 => ?_⟩
  have hl := len _ _ _ _ hsp0
  have KX : K.In s.heap := e0.mod.kin.keeps fun b o e => (e0.bs b o e).1
  have lim : s.heap.NoLimit := e0.mod.nolimit.keeps fun b o e => (e0.bs b o e).1
  subst hb
  refine ks_codeAny_call_defAt (fd := PySem.W.ksFn name qual params _ scope dV kV doc pm an (.ref cda) ct cc) hr.depth (KX _ _ lk) rfl lim (PySem.W.codeRec_of KX hcd) rfl hbd S.nocell (fun y hy => S.par y.1 (List.of_mem_zip hy).1) (fun h₀ hns hk₁ => ?_) S.co S.gen S.kind
  obtain ⟨a, dx, fs, hv0, hHa, hta⟩ := hsp vs H Q E hsp0
  have I : Inv (cxS P w K mg base N qual scope f (.ref cda) cc A outer s H) [] (vs.map some) H { s with heap := h₀, toks := s.toks + (N.zip us).length } := inv_sup S hr.hd e0 hl r hcell hns hk₁
  have fin : ∀ {t : Sem Flow} {G : Flow → Shared → Prop} {Ex : Value → Shared → Prop} {s0 : Shared} {cd0 : Code} {A0 : Around}, PySem.wpAt (model P w) A0 cd0 t G (fun _ _ => False) s0 → PySem.wpAt (model P w) A0 cd0 t G Ex s0 := fun h => PySem.ks_wpAt_mono h (fun _ _ z => z) fun _ _ (z : False) => False.elim z
  have I0 := I
  obtain ⟨mA, O, _, _, _, _⟩ := ins_get I.hok hHa
  obtain ⟨od1, J, _⟩ := O.look
  have X1 : K.In h₀ := KX.keeps hk₁
  obtain ⟨oD, hD1, hD2⟩ : ∃ oD, h₀.get? D = some oD ∧ oD.data = .cls cdD := by
    unfold PySem.W.clsIn at hD
    split at hD
    · rename_i c d cd' sl ho
      cases hD
      exact ⟨_, X1 _ _ ho, rfl⟩
    · cases hD
  obtain ⟨mb, hb1, hb2⟩ := e0.mod.blt
  obtain ⟨pl, hpl⟩ := hpl
  refine fin (PySem.ks_wpAt_execs_cons (PySem.ks_wpAt_Expr_any (hi := Inv.quiet I) (PySem.ks_wpAt_MethodCall (PySem.ks_wpAt_super_base (env := PySem.W.ksEnv qual scope s.heap.objs.size f (.ref cda) cc) S.sup S.cls (by decide) rfl (X1 _ _ lk) rfl hp rfl (X1 _ _ hcode) rfl hvs hfile htop ?_) (hpl _ rfl))))
  refine PySem.W.ks_loadName_global S.kind S.sup (Calls.loadGlobal_builtin (env := PySem.W.ksEnv qual scope s.heap.objs.size f (.ref cda) cc) (I.mod.glob.keeps I.bk) hsuper (hb1.keeps I.bk) ((hb2 _ (by decide)).trans hboot) ⟨rfl, ?_⟩)
  refine wpAny_loadName_free S.kind S.cls rfl ⟨_, X1 _ _ hcell, rfl⟩ ?_
  obtain ⟨u0, hu0, rv0⟩ := r.get hv0
  obtain rfl : u0 = Value.ref a := rv0
  refine wpAny_loadName_local S.kind (S.par _ (List.mem_of_getElem? hN)) hns (zip_rev_get S.nd hN hu0) ?_
  refine PySem.ks_wpAny_isType_cls hD1 hD2 ⟨rfl, ?_⟩
  refine PySem.ks_wpAny_call_super hD1 hD2 J.at_ J.cls (fun c e => ?_) (PySem.W.looks_mroIn X1 hsub) (fun h2 e2 k2 => ?_)
  · have := J.no
    unfold PySem.W.notCls at this
    rw [e] at this
    exact Bool.noConfusion this
  have I2 := ClX.pin_new (t' := s.toks + (N.zip us).length) I k2 (Nat.le_refl _) e2 (fun v z => nomatch z)
  have X2 : K.In h2 := I2.kIn
  obtain ⟨of, hof, hofc⟩ : ∃ of, h2.get? f2 = some of ∧ of.cls = .type "function" := by
    have ht' : (K.lookup f2).map (·.cls) = some (.type "function") := ht
    cases z : K.lookup f2 with
    | none => rw [z] at ht'; cases ht'
    | some of => rw [z] at ht'; exact ⟨of, X2 _ _ z, Option.some.inj ht'⟩
  refine PySem.ks_wpAny_getMethod_super e2 (PySem.W.looks_opaque X2 ho) (l₀ := cdD.mro) (fun A Q E s k q => wpAny_bind ((PySem.W.looks_clsIn X2 hD) A _ E s k (wpAny_pure q))) rfl X2 hm hof hofc ?_ (by decide) ?_
  · exact PySem.W.ks_ne X1 J hD
  have I3 := ClX.pin_new (t' := s.toks + (N.zip us).length + 1) I2 (fun b o e => Heap.get?_push_of_some (PySem.W.methodObj (.ref f2) (.ref a)) e) (Nat.le_refl _) (Heap.get?_push_at rfl rfl) (fun v z => nomatch z)
  have hr1 := hr.deeper (PySem.W.ksEnv qual scope s.heap.objs.size f (.ref cda) cc)
  refine ClX.callwith_cm I3 (ClX.base_none I2 (Nat.le_refl _)) hfi (thn ((pa_cons (ha A outer s H) pa_nil).run pos _ _ _ _ _ I3 (show tCons ta tNil (vs.map some) H (fun xs H1 => sp2 (.ref a :: xs) H1 (fun _ H2 => Q .non H2) E0) from hta)) fun u4 s4 hq => ?_) rfl rfl
  obtain ⟨ws, H4, I4, rws, q4⟩ := hq
  refine ⟨⟨ClX.pin_at I4, I4.kIn⟩, ?_⟩
  refine thn (ClX.run_cm (F2.raw b2 .nil) hr1 pass0 I4 rws (show sp2 ((V.ref a :: ws) ++ []) H4 (fun _ H2 => Q .non H2) E0 by rw [List.append_nil]; exact q4)) fun u5 s5 h5 => ?_
  obtain ⟨v5, H5, I5, r5, q5⟩ := h5
  refine wpAt_of_wpAny ?_
  show wpAny (model P w) _ (execs [] _) _ _ _
  rw [execs_nil]
  refine wpAny_pure ?_
  exact ⟨.non, H5, I5.os, I5.bare, I5.base, I5.hok, rfl, q5⟩
end
end EpR
namespace Ep
open PySem PySem.Spec L2 EpR
open PyProof.Rows hiding St
section
variable {P : Program} {w : World} {K : PySem.W.Frag} {mg : Str → Option Value} {base : Heap} {a : Ad} {f : Addr} {fd : FuncData}
def spWhole : Sp := fun vs H Q _ => ∃ i : Int, vs = [.int i] ∧ Q (.bl true) H
theorem sc_is_whole : FnScope ["value"] ["value"] (defScope (top 11)) := ⟨rfl, rfl, rfl, by decide +kernel, rfl, by decide +kernel, by decide +kernel⟩
theorem ok_is_whole (T : TX w K mg a) (F : FunP K "is_whole" "is_whole" (top 11) [] [] f fd) : FnOk P w K mg base CX0 1 f fd ["value"] spWhole := by
  refine F.ok sc_is_whole (fun vs H Q E h => ?_) (fun cdv A outer s H vs Q E hr h => ⟨_, PSs.nox ((pss_one (ps_ret (pe_and (pe_callB call_isi (by rfl) T.n_isinstance boot_isinstance (pa_cons (pv 0) (pa_cons (pe_bltn (v := .ty "int") (by rfl) T.n_int boot_int rfl) pa_nil))) (pe_one (pe_not (pe_callB call_isi (by rfl) T.n_isinstance boot_isinstance (pa_cons (pv 0) (pa_cons (pe_bltn (v := .ty "bool") (by rfl) T.n_bool boot_bool rfl) pa_nil))))))))), ?_⟩)
  · obtain ⟨i, rfl, _⟩ := h
    rfl
  · obtain ⟨i, rfl, k⟩ := h
    exact ⟨_, rfl, _, _, _, _, _, rfl, .ty _, .base (.int i), rfl, _, rfl, iteT ⟨_, rfl, _, _, _, _, _, rfl, .ty _, .base (.int i), rfl, _, rfl, k⟩⟩
def spNum : Sp := fun vs H Q _ => ∃ i lo hi : Int, vs = [.int i, .int lo, .int hi] ∧ lo ≤ i ∧ i ≤ hi ∧ Q (.bl true) H
theorem sc_is_number : FnScope ["value", "low", "high"] ["value", "low", "high"] (defScope (top 10)) := ⟨rfl, rfl, rfl, by decide +kernel, rfl, by decide +kernel, by decide +kernel⟩
theorem ok_is_number (c_is_whole : Cal P w K mg base 1 "is_whole" spWhole) (F : FunP K "is_number" "is_number" (top 10) [] [] f fd) : FnOk P w K mg base CX0 2 f fd ["value", "low", "high"] spNum := by
  refine F.ok sc_is_number (fun vs H Q E h => ?_) (fun cdv A outer s H vs Q E hr h => ⟨_, PSs.nox ((pss_one (ps_ret (pe_and (pe_c c_is_whole hr (by decide) rfl (pa_cons (pv 0) pa_nil)) (pe_one (pe_chain op_le op_le (pv 1) (pv 0) (pv 2))))))), ?_⟩)
  · obtain ⟨i, lo, hi, rfl, _⟩ := h
    rfl
  · obtain ⟨i, lo, hi, rfl, h1, h2, k⟩ := h
    refine ⟨_, rfl, i, rfl, _, rfl, iteT ⟨_, rfl, _, rfl, _, _, rfl, rfl, _, rfl, ?_⟩⟩
    exact iteDT h1 ⟨_, rfl, _, _, rfl, rfl, blT (Q := Q) h2 k⟩
def spVals (K : PySem.W.Frag) : Sp := fun vs H Q _ => ∃ (wd : Wd) (o : V), vs = [.str wd.s, o] ∧ ∀ t H', Same H H' → SqT K H' t (vals wd) → Q (.ref t) H'
theorem sc_values_at : FnScope ["word", "own"] ["word", "own"] (defScope (top 17)) := ⟨rfl, rfl, rfl, by decide +kernel, rfl, by decide +kernel, by decide +kernel⟩
theorem ok_values_at (T : TX w K mg a) (F : FunP K "values_at" "values_at" (top 17) [] [] f fd) : FnOk P w K mg base CX0 1 f fd ["word", "own"] (spVals K) := by
  refine F.ok sc_values_at (fun vs H Q E h => ?_) (fun cdv A outer s H vs Q E hr h => ⟨_, PSs.nox ((pss_cons (ps_if (pt_cmpR op_eq (pv 0) pe_str (nomark _)) (pss_one ps_never) pss_nil) (pss_cons (ps_if (pt_cmpR op_eq (pv 0) pe_str (nomark _)) (pss_one ps_never) pss_nil) (pss_one (ps_ret (pe_ifExp (pt_cmpR op_eq (pv 0) pe_str (nomark _)) (pe_tupRg rfl rfl T.n_tuple (prg_2 (by rfl) T.n_range pe_int (pe_op op_add (C8.pe_gc rfl T.g_MOST_COUNTS) pe_int))) (pe_ix ix_kdict (C8.pe_gc rfl T.g_ORDERS) (pv 0) (by intro _ _; rfl)))))))), ?_⟩)
  · obtain ⟨wd, o, rfl, _⟩ := h
    rfl
  · obtain ⟨wd, o, rfl, k⟩ := h
    cases wd
    · refine ⟨_, rfl, rfl, _, rfl, iteD (by decide +kernel) ⟨_, rfl, rfl, _, rfl, iteD (by decide +kernel) ⟨_, rfl, rfl, _, rfl, iteDT (by decide +kernel) ⟨_, _, rfl, rfl, _, _, rfl, rfl, RgOk.of_le (by decide) (by decide) (by decide) (by decide), fun q hq => ?_⟩⟩⟩⟩
      exact k _ _ (same_upd hq) (sqT_of (by rw [upd_same]; rfl))
    · exact ⟨_, rfl, rfl, _, rfl, iteD (by decide +kernel) ⟨_, rfl, rfl, _, rfl, iteD (by decide +kernel) ⟨_, rfl, rfl, _, rfl, iteD (by decide +kernel) ⟨_, rfl, _, _, _, rfl, rfl, T.o2, k _ _ (Same.refl _) (T.t2.sq _)⟩⟩⟩⟩
    · exact ⟨_, rfl, rfl, _, rfl, iteD (by decide +kernel) ⟨_, rfl, rfl, _, rfl, iteD (by decide +kernel) ⟨_, rfl, rfl, _, rfl, iteD (by decide +kernel) ⟨_, rfl, _, _, _, rfl, rfl, T.o3, k _ _ (Same.refl _) (T.t3.sq _)⟩⟩⟩⟩
    · exact ⟨_, rfl, rfl, _, rfl, iteD (by decide +kernel) ⟨_, rfl, rfl, _, rfl, iteD (by decide +kernel) ⟨_, rfl, rfl, _, rfl, iteD (by decide +kernel) ⟨_, rfl, _, _, _, rfl, rfl, T.o4, k _ _ (Same.refl _) (T.t4.sq _)⟩⟩⟩⟩
def spSame : Sp := fun vs H Q _ => ∃ x y : V, vs = [x, y] ∧ ((∃ i j, x = .int i ∧ y = .int j) ∨ ∃ i j, x = .str i ∧ y = .str j) ∧ Q (.bl (decide (x = y))) H
theorem sc_is_same : FnScope ["value", "one"] ["value", "one"] (defScope (top 18)) := ⟨rfl, rfl, rfl, by decide +kernel, rfl, by decide +kernel, by decide +kernel⟩
theorem ok_is_same (T : TX w K mg a) (c_is_whole : Cal P w K mg base 1 "is_whole" spWhole) (F : FunP K "is_same" "is_same" (top 18) [] [] f fd) : FnOk P w K mg base CX0 2 f fd ["value", "one"] spSame := by
  refine F.ok sc_is_same (fun vs H Q E h => ?_) (fun cdv A outer s H vs Q E hr h => ⟨_, PSs.nox ((pss_cons (ps_if (pt_val (pe_callB call_isi (by rfl) T.n_isinstance boot_isinstance (pa_cons (pv 1) (pa_cons (pe_bltn (v := .ty "bool") rfl T.n_bool boot_bool rfl) pa_nil)))) (pss_one ps_never) pss_nil) (pss_cons (ps_if (pt_val (pe_callB call_isi (by rfl) T.n_isinstance boot_isinstance (pa_cons (pv 1) (pa_cons (pe_bltn (v := .ty "str") (by rfl) T.n_str boot_str rfl) pa_nil)))) (pss_one (ps_ret (pe_and (pe_callB call_isi (by rfl) T.n_isinstance boot_isinstance (pa_cons (pv 0) (pa_cons (pe_bltn (v := .ty "str") (by rfl) T.n_str boot_str rfl) pa_nil))) (pe_one (pe_cmpR op_eq (pv 0) (pv 1) (nomark _)))))) pss_nil) (pss_one (ps_ret (pe_and (pe_c c_is_whole hr (by decide) rfl (pa_cons (pv 0) pa_nil)) (pe_one (pe_cmpR op_eq (pv 0) (pv 1) (nomark _))))))))), ?_⟩)
  · obtain ⟨x, y, rfl, _⟩ := h
    rfl
  · obtain ⟨x, y, rfl, h, k⟩ := h
    rcases h with ⟨i, j, rfl, rfl⟩ | ⟨i, j, rfl, rfl⟩
    · exact ⟨_, rfl, _, _, _, _, _, rfl, .ty _, .base (.int _), rfl, _, rfl, iteF ⟨_, rfl, _, _, _, _, _, rfl, .ty _, .base (.int _), rfl, _, rfl, iteF ⟨_, rfl, _, rfl, _, rfl, iteT ⟨_, rfl, _, rfl, rfl, k⟩⟩⟩⟩
    · exact ⟨_, rfl, _, _, _, _, _, rfl, .ty _, .base (.str _), rfl, _, rfl, iteF ⟨_, rfl, _, _, _, _, _, rfl, .ty _, .base (.str _), rfl, _, rfl, iteT ⟨_, rfl, _, _, _, _, _, rfl, .ty _, .base (.str _), rfl, _, rfl, iteT ⟨_, rfl, _, rfl, rfl, k⟩⟩⟩⟩
theorem vals_kind (b : Bk) (wd : Wd) {y : V} (h : y ∈ vals wd) : (∃ i j, b.at wd = V.int i ∧ y = .int j) ∨ ∃ i j, b.at wd = V.str i ∧ y = .str j := by
  cases wd <;> simp only [vals, List.mem_cons, List.mem_nil_iff, or_false] at h
  · rcases h with rfl | rfl | rfl | rfl <;> exact .inl ⟨_, _, rfl, rfl⟩
  · rcases h with rfl | rfl <;> exact .inr ⟨_, _, rfl, rfl⟩
  · rcases h with rfl | rfl <;> exact .inr ⟨_, _, rfl, rfl⟩
  · rcases h with rfl | rfl | rfl | rfl <;> exact .inr ⟨_, _, rfl, rfl⟩
theorem vals_flt {b : Bk} (h : b.ok) (wd : Wd) : (vals wd).filter (fun y => decide (b.at wd = y)) = [b.at wd] := by
  cases wd
  · obtain ⟨h1, h2⟩ := h
    have : b.c = 1 ∨ b.c = 2 ∨ b.c = 3 ∨ b.c = 4 := by omega
    show List.filter (fun y => decide (V.int b.c = y)) _ = [V.int b.c]
    rcases this with e | e | e | e <;> rw [e] <;> decide +kernel
  · show List.filter (fun y => decide (V.str (stS b.st) = y)) _ = [V.str (stS b.st)]
    cases b.st <;> decide +kernel
  · show List.filter (fun y => decide (V.str (rdS b.rd) = y)) _ = [V.str (rdS b.rd)]
    cases b.rd <;> decide +kernel
  · show List.filter (fun y => decide (V.str (slS b.sl) = y)) _ = [V.str (slS b.sl)]
    cases b.sl <;> decide +kernel
theorem vals_len (wd : Wd) : (vals wd).length ≤ 4 := by cases wd <;> decide
def spIsVal : Sp := fun vs H Q _ => ∃ (wd : Wd) (o : Addr) (b : Bk), vs = [.str wd.s, .ref o] ∧ H o = some (.dK b.kv) ∧ b.ok ∧ ∀ H', Same H H' → Q (.bl true) H'
theorem sc_is_value : FnScope ["word", "own", "one"] ["word", "own"] (defScope (top 19)) := ⟨rfl, rfl, rfl, by decide +kernel, rfl, by decide +kernel, by decide +kernel⟩
theorem ok_is_value (c_values_at : Cal P w K mg base 1 "values_at" (spVals K)) (c_is_same : Cal P w K mg base 2 "is_same" spSame) (F : FunP K "is_value" "is_value" (top 19) [] [] f fd) : FnOk P w K mg base CX0 3 f fd ["word", "own"] spIsVal := by
  refine F.ok sc_is_value (fun vs H Q E h => ?_) (fun cdv A outer s H vs Q E hr h => ⟨_, PSs.nox ((pss_one (ps_ret (pe_cmpR (op_neD hr.units) (pe_lc (own := [("one", 2)]) rfl sc_is_value.nd (pi_tup (pe_c c_values_at hr (by decide) rfl (pa_cons (pv 0) (pa_cons (pv 1) pa_nil)))) (blkOk_by (by first | rfl | kernel_rfl)) (fun _ _ _ _ _ => (pg_name (i := 2) sc_is_value.nd rfl (by first | exact Or.inl rfl | exact Or.inr rfl))) (fun _ _ _ _ _ => (pts_one (pt_val (pe_c c_is_same hr (by decide) rfl (pa_cons (pe_dget (hu_of hr) (pv 1) (pv 0) (by intro _ _; rfl)) (pa_cons (pv 2) pa_nil)))))) (fun _ _ _ _ _ => (pv 2))) (pe_lst pa_nil) (nomark _))))), ?_⟩)
  · obtain ⟨wd, o, b, rfl, _⟩ := h
    rfl
  · obtain ⟨wd, o, b, rfl, ho, ok, k⟩ := h
    refine ⟨_, rfl, _, rfl, wd, _, rfl, fun t H1 s1 hT => ⟨t, rfl, ⟨_, hT⟩, fun D hD => ?_⟩⟩
    refine lc_tup (xs := vals wd) (fun i H' => Same H1 H' ∧ H' D = some (.lst (((vals wd).take i).filter fun y => decide (b.at wd = y)))) ⟨same_upd hD, upd_same⟩ (fun i H' _ hP => sqT_same hP.1 hT) (fun i x H' hx hP => ?_) (fun H' hP => ?_)
    · obtain ⟨s2, hacc⟩ := hP
      have hmem : x ∈ vals wd := List.mem_of_getElem? hx
      have hlt : i < (vals wd).length := (List.getElem?_eq_some_iff.mp hx).1
      have ho2 : H' o = some (.dK b.kv) := s2 _ _ (s1 _ _ ho)
      have htk : ∀ p : V → Bool, ((vals wd).take (i + 1)).filter p = ((vals wd).take i).filter p ++ (if p x = true then [x] else []) := fun p => by
        rw [List.take_add_one, hx, List.filter_append]
        by_cases e : p x = true <;> simp [e]
      refine ⟨rfl, _, rfl, _, rfl, o, b.at wd, rfl, .inl ⟨_, .inr wd.s, .inl ho2, rfl, (b.get wd).symm⟩, _, rfl, _, _, rfl, vals_kind b wd hmem, _, rfl, ?_⟩
      refine ite2D (fun e => ?_) (fun e => ?_)
      · refine ⟨_, rfl, _, hacc, ?_, fun p u hp => ?_, ?_⟩
        · exact small1000 (Nat.le_trans (List.length_filter_le _ _) (Nat.le_trans (List.length_take_le _ _) (by have := vals_len wd; omega)))
        · by_cases z : p = D
          · rw [z, hD] at hp
            cases hp
          · rw [upd_ne z]
            exact s2 _ _ hp
        · rw [upd_same, htk, if_pos (decide_eq_true e)]
      · refine ⟨s2, ?_⟩
        rw [hacc, htk, if_neg (by rw [decide_eq_false e]; decide), List.append_nil]
    · obtain ⟨s2, hacc⟩ := hP
      rw [List.take_length, vals_flt ok] at hacc
      refine ⟨Nat.zero_le _, fun l hl => ?_⟩
      have nl : D ≠ l := ne_of_none hacc hl
      have s3 : Same H (upd H' l (.lst [])) := fun p u hp => by
        rw [upd_ne (ne_of_none (s2 _ _ (s1 _ _ hp)) hl)]
        exact s2 _ _ (s1 _ _ hp)
      have hD3 : upd H' l (.lst []) D = some (.lst [b.at wd]) := by
        rw [upd_ne nl]
        exact hacc
      have fin : ∀ d : PyData, Dp K (upd H' l (.lst [])) (b.at wd) d → SeqAt.shaped (.list [d]) = true → ∃ d e, Dp K (upd H' l (.lst [])) (V.ref D) d ∧ Dp K (upd H' l (.lst [])) (V.ref l) e ∧ SeqAt.shaped d = true ∧ SeqAt.shaped e = true ∧ Q (.bl (!PyData.eqv d e)) (upd H' l (.lst [])) := fun d hd sh =>
        ⟨.list [d], .list [], .lst (sqL_of hD3) (.cons hd .nil), .lst (sqL_of upd_same) .nil, sh, by rfl, k _ s3⟩
      cases wd
      · exact fin (.int b.c) (.int _) (by rfl)
      · exact fin (.str _) (.str _) (by generalize b.st = z; cases z <;> decide +kernel)
      · exact fin (.str _) (.str _) (by generalize b.rd = z; cases z <;> decide +kernel)
      · exact fin (.str _) (.str _) (by generalize b.sl = z; cases z <;> decide +kernel)
end
end Ep
namespace Ep
open PySem PySem.Spec L2 EpR
open PyProof.Rows hiding St
theorem words4_get {i : Nat} {x : V} (h : words4[i]? = some x) : ∃ wd : Wd, x = .str wd.s := by
  have hm : x ∈ words4 := List.mem_of_getElem? h
  simp only [words4, List.mem_cons, List.mem_nil_iff, or_false] at hm
  rcases hm with rfl | rfl | rfl | rfl
  · exact ⟨.counts, rfl⟩
  · exact ⟨.still, rfl⟩
  · exact ⟨.read, rfl⟩
  · exact ⟨.sleep, rfl⟩
section
variable {P : Program} {w : World} {K : PySem.W.Frag} {mg : Str → Option Value} {base : Heap} {a : Ad} {f : Addr} {fd : FuncData}
def NoF (fs : List (Str × V)) : Prop := fs.lookup ("WORDS" : Str) = none ∧ fs.lookup ("WAY" : Str) = none ∧ fs.lookup ("look_at_word" : Str) = none ∧ fs.lookup ("first_wrong" : Str) = none ∧ fs.lookup ("twin" : Str) = none
def spFw (a : Ad) : Sp := fun vs H Q _ => ∃ (p o dx : Addr) (fs : List (Str × V)) (b : Bk), vs = [.ref p, .ref o] ∧ H p = some (.ins a.CS dx fs) ∧ NoF fs ∧ H o = some (.dK b.kv) ∧ b.ok ∧ ∀ H', Same H H' → Q .non H'
theorem sc_first_wrong : FnScope ["self", "own", "word"] ["self", "own"] (defScope (inClass (top 21) 3)) := ⟨rfl, rfl, rfl, by decide +kernel, rfl, by decide +kernel, by decide +kernel⟩
theorem ok_first_wrong (T : TX w K mg a) (c_is_value : Cal P w K mg base 3 "is_value" spIsVal) (F : FunP K "first_wrong" "Book.first_wrong" (inClass (top 21) 3) [] [] f fd) : FnOk P w K mg base CX0 4 f fd ["self", "own"] (spFw a) := by
  refine F.ok sc_first_wrong (fun vs H Q E h => ?_) (fun cdv A outer s H vs Q E hr h => ⟨_, PSs.nox ((pss_cons (ps_for PassesOwn.never rfl (pi_tup (pe_con (pv 0) rfl)) (pg_name (i := 2) sc_first_wrong.nd rfl (by first | exact Or.inl rfl | exact Or.inr rfl)) (pss_one (ps_if (pt_not (pt_val (pe_c c_is_value hr (by decide) rfl (pa_cons (pv 2) (pa_cons (pv 1) pa_nil))))) (pss_one (ps_ret (pv 2))) pss_nil))) (pss_one (ps_ret pe_non)))), ?_⟩)
  · obtain ⟨p, o, dx, fs, b, rfl, _⟩ := h
    rfl
  · obtain ⟨p, o, dx, fs, b, rfl, hp, nf, ho, ok, k⟩ := h
    obtain ⟨u, hw⟩ := T.words
    refine ⟨_, rfl, p, _, dx, fs, _, u, rfl, hp, T.clS, hw, nf.1, a.tW, rfl, ⟨_, T.tW.sq _⟩, for_tup (K := K) (a := a.tW) (xs := words4) (fun i σ H' => Same H H' ∧ ∃ v, σ = [some (.ref p), some (.ref o), v]) ⟨Same.refl _, _, rfl⟩ (fun i σ H' _ _ => T.tW.sq _) ?_ ?_⟩
    · rintro i x σ H' hx ⟨s1, v, rfl⟩
      obtain ⟨wd, rfl⟩ := words4_get hx
      exact ⟨_, rfl, _, rfl, wd, o, b, rfl, s1 _ _ ho, ok, fun H2 s2 => ⟨_, rfl, iteF ⟨s1.trans s2, _, rfl⟩⟩⟩
    · rintro σ H' ⟨s1, v, rfl⟩
      exact k _ s1
def spBinit (a : Ad) : Sp := fun vs H Q _ => ∃ (p o dx : Addr) (b : Bk), vs = [.ref p, .ref o] ∧ H p = some (.ins a.CS dx []) ∧ H o = some (.dK b.kv) ∧ b.ok ∧ ∀ ol H', SameB p H H' → H' p = some (.ins a.CS dx (bkF o ol)) → Q .non H'
theorem sc_binit : FnScope ["self", "own", "wrong"] ["self", "own"] (defScope (inClass (top 21) 2)) := ⟨rfl, rfl, rfl, by decide +kernel, rfl, by decide +kernel, by decide +kernel⟩
theorem ok_binit (T : TX w K mg a) (m_first_wrong : Met P w K mg base 4 a.CS "first_wrong" (spFw a)) (F : FunP K "__init__" "Book.__init__" (inClass (top 21) 2) [] [] f fd) : FnOk P w K mg base CX0 5 f fd ["self", "own"] (spBinit a) := by
  refine F.ok sc_binit (fun vs H Q E h => ?_) (fun cdv A outer s H vs Q E hr h => ⟨_, PSs.nox ((pss_cons (ps_set (i := 2) sc_binit.nd rfl (by first | exact Or.inl rfl | exact Or.inr rfl) (pe_m m_first_wrong hr (by decide) (pv 0) (pa_cons (pv 1) pa_nil))) (pss_cons (ps_if (pt_cmpR op_notN (pv 2) pe_non (nomark _)) (pss_one ps_never) pss_nil) (pss_cons (ps_fld (pv 0) (pv 1) rfl) (pss_one (ps_fld (pv 0) (pe_callTy call_list_of (by rfl) T.n_list boot_list (pa_cons (pe_con (pv 0) rfl) pa_nil)) rfl)))))), ?_⟩)
  · obtain ⟨p, o, dx, b, rfl, _⟩ := h
    rfl
  · obtain ⟨p, o, dx, b, rfl, hp, ho, ok, k⟩ := h
    obtain ⟨u, hw⟩ := T.words
    refine ⟨_, rfl, p, dx, [], rfl, hp, rfl, _, rfl, p, o, dx, [], b, rfl, hp, ⟨rfl, rfl, rfl, rfl, rfl⟩, ho, ok, fun H1 s1 => ?_⟩
    have hp1 := s1 _ _ hp
    refine ⟨_, rfl, rfl, _, rfl, iteN rfl ?_⟩
    refine ⟨_, rfl, _, rfl, p, _, dx, [], rfl, hp1, T.clS, T.nSown, (by show 0 < 1000; decide), ?_⟩
    refine ⟨_, rfl, p, _, dx, _, _, u, rfl, upd_same, T.clS, hw, rfl, a.tW, _, rfl, .inr (T.tW.sq _), fun ol hol => ?_⟩
    have n : p ≠ ol := ne_of_none upd_same hol
    refine ⟨_, rfl, p, _, dx, _, rfl, (by rw [upd_ne n]; exact upd_same), T.clS, T.nSorder, (by show 1 < 1000; decide), ?_⟩
    refine k ol _ (fun q z e1 e2 => ?_) upd_same
    have e3 := s1 _ _ e2
    have e4 : (upd H1 p (.ins a.CS dx (putF "own" (.ref o) []))) q = some z := (upd_ne e1).trans e3
    rw [upd_ne e1, upd_ne (ne_of_none e4 hol)]
    exact e4
def spWay (a : Ad) : Sp := fun vs H Q _ => ∃ (p dx : Addr) (fs : List (Str × V)), vs = [.ref p] ∧ H p = some (.ins a.CS dx fs) ∧ NoF fs ∧ Q (.str "still") H
theorem sc_way : FnScope ["self"] ["self"] (defScope (inClass (top 21) 4)) := ⟨rfl, rfl, rfl, by decide +kernel, rfl, by decide +kernel, by decide +kernel⟩
theorem ok_way (T : TX w K mg a) (F : FunP K "way" "Book.way" (inClass (top 21) 4) [] [] f fd) : FnOk P w K mg base CX0 1 f fd ["self"] (spWay a) := by
  refine F.ok sc_way (fun vs H Q E h => ?_) (fun cdv A outer s H vs Q E hr h => ⟨_, PSs.nox ((pss_one (ps_ret (pe_con (pv 0) rfl)))), ?_⟩)
  · obtain ⟨p, dx, fs, rfl, _⟩ := h
    rfl
  · obtain ⟨p, dx, fs, rfl, hp, nf, k⟩ := h
    obtain ⟨u, hw⟩ := T.way
    exact ⟨_, rfl, p, _, dx, fs, _, u, rfl, hp, T.clS, hw, nf.2.1, k⟩
def spLook (a : Ad) : Sp := fun vs H Q _ => ∃ (p dx : Addr) (fs : List (Str × V)) (wd : Wd), vs = [.ref p, .str wd.s] ∧ H p = some (.ins a.CS dx fs) ∧ NoF fs ∧ Q .non H
theorem sc_look_at_word : FnScope ["self", "word"] ["self", "word"] (defScope (inClass (top 21) 5)) := ⟨rfl, rfl, rfl, by decide +kernel, rfl, by decide +kernel, by decide +kernel⟩
theorem ok_look_at_word (T : TX w K mg a) (F : FunP K "look_at_word" "Book.look_at_word" (inClass (top 21) 5) [] [] f fd) : FnOk P w K mg base CX0 1 f fd ["self", "word"] (spLook a) := by
  refine F.ok sc_look_at_word (fun vs H Q E h => ?_) (fun cdv A outer s H vs Q E hr h => ⟨_, PSs.nox ((pss_one (ps_if (pw_or (pt_not (pt_val (pe_callB call_isi (by rfl) T.n_isinstance boot_isinstance (pa_cons (pv 1) (pa_cons (pe_bltn (v := .ty "str") (by rfl) T.n_str boot_str rfl) pa_nil))))) (pw_or1 (pt_cmpR op_notIn_seq (pv 1) (pe_con (pv 0) rfl) (by with_unfolding_all rfl)))).pt (pss_one ps_never) pss_nil))), ?_⟩)
  · obtain ⟨p, dx, fs, wd, rfl, _⟩ := h
    rfl
  · obtain ⟨p, dx, fs, wd, rfl, hp, nf, k⟩ := h
    obtain ⟨u, hw⟩ := T.words
    refine ⟨_, rfl, _, _, _, _, _, rfl, .ty _, .base (.str _), rfl, _, rfl, iteF ⟨_, rfl, _, rfl, p, _, dx, fs, _, u, rfl, hp, T.clS, hw, nf.1, a.tW, words4, rfl, .inr (T.tW.sq _), rfl, (by decide +kernel), false, ?_, iteF k⟩⟩
    cases wd <;> decide +kernel
def spGet (a : Ad) : Sp := fun vs H Q _ => ∃ (p : Addr) (b : Bk) (wd : Wd), vs = [.ref p, .str wd.s] ∧ BookAt a H p b ∧ Q (b.at wd) H
theorem sc_getitem : FnScope ["self", "word"] ["self", "word"] (defScope (inClass (top 21) 9)) := ⟨rfl, rfl, rfl, by decide +kernel, rfl, by decide +kernel, by decide +kernel⟩
theorem ok_getitem (T : TX w K mg a) (m_look_at_word : Met P w K mg base 1 a.CS "look_at_word" (spLook a)) (F : FunP K "__getitem__" "Book.__getitem__" (inClass (top 21) 9) [] [] f fd) : FnOk P w K mg base CX0 2 f fd ["self", "word"] (spGet a) := by
  refine F.ok sc_getitem (fun vs H Q E h => ?_) (fun cdv A outer s H vs Q E hr h => ⟨_, PSs.nox ((pss_cons (ps_expr (pe_m m_look_at_word hr (by decide) (pv 0) (pa_cons (pv 1) pa_nil))) (pss_one (ps_ret (pe_dget (hu_of hr) (pe_fld (pv 0) rfl) (pv 1) (by intro _ _; rfl)))))), ?_⟩)
  · obtain ⟨p, b, wd, rfl, _⟩ := h
    rfl
  · obtain ⟨p, b, wd, rfl, ⟨ok, dx, od, ol, hp, ho⟩, k⟩ := h
    exact ⟨_, rfl, p, dx, _, rfl, hp, rfl, _, rfl, p, dx, _, wd, rfl, hp, ⟨rfl, rfl, rfl, rfl, rfl⟩, _, rfl, p, _, dx, _, _, rfl, hp, T.clS, T.nSown, rfl, _, rfl, od, b.at wd, rfl, .inl ⟨_, .inr wd.s, .inl ho, rfl, (b.get wd).symm⟩, k⟩
end
end Ep
namespace Ep
open PySem PySem.Spec L2 EpR
open PyProof.Rows hiding St
section
variable {P : Program} {w : World} {K : PySem.W.Frag} {mg : Str → Option Value} {base : Heap} {a : Ad} {f : Addr} {fd : FuncData}
def spSet (a : Ad) : Sp := fun vs H Q _ => ∃ (p : Addr) (b b' : Bk) (wd : Wd) (v : V), vs = [.ref p, .str wd.s, v] ∧ BookAt a H p b ∧ b'.ok ∧ putK b.kv (.inr wd.s) v = b'.kv ∧ ∀ H', SameB p H H' → BookAt a H' p b' → Q .non H'
theorem sc_setitem : FnScope ["self", "word", "value", "own"] ["self", "word", "value"] (defScope (inClass (top 21) 10)) := ⟨rfl, rfl, rfl, by decide +kernel, rfl, by decide +kernel, by decide +kernel⟩
theorem ok_setitem (T : TX w K mg a) (m_look_at_word : Met P w K mg base 1 a.CS "look_at_word" (spLook a)) (m_first_wrong : Met P w K mg base 4 a.CS "first_wrong" (spFw a)) (F : FunP K "__setitem__" "Book.__setitem__" (inClass (top 21) 10) [] [] f fd) : FnOk P w K mg base CX0 5 f fd ["self", "word", "value"] (spSet a) := by
  refine F.ok sc_setitem (fun vs H Q E h => ?_) (fun cdv A outer s H vs Q E hr h => ⟨_, PSs.nox ((pss_cons (ps_expr (pe_m m_look_at_word hr (by decide) (pv 0) (pa_cons (pv 1) pa_nil))) (pss_cons (ps_set (i := 3) sc_setitem.nd rfl (by first | exact Or.inl rfl | exact Or.inr rfl) (pe_spread (pe_fld (pv 0) rfl) (pv 1) (pv 2))) (pss_cons (ps_if (pt_cmpR op_notN (pe_m m_first_wrong hr (by decide) (pv 0) (pa_cons (pv 3) pa_nil)) pe_non (nomark _)) (pss_one ps_never) pss_nil) (pss_one (ps_fld (pv 0) (pv 3) rfl)))))), ?_⟩)
  · obtain ⟨p, b, b', wd, v, rfl, _⟩ := h
    rfl
  · obtain ⟨p, b, b', wd, v, rfl, ⟨ok, dx, od, ol, hp, ho⟩, ok', hk, k⟩ := h
    refine ⟨_, rfl, p, dx, _, rfl, hp, rfl, _, rfl, p, dx, _, wd, rfl, hp, ⟨rfl, rfl, rfl, rfl, rfl⟩, fun q hq => ?_⟩
    have npq : p ≠ q := ne_of_none hp hq
    have noq : od ≠ q := ne_of_none ho hq
    refine ⟨_, rfl, p, _, dx, _, _, rfl, (by rw [upd_ne npq]; exact hp), T.clS, T.nSown, rfl, od, b.kv, rfl, noq, upd_same, (by rw [upd_ne noq]; exact ho), (by show 4 ≤ 1000; decide), fun r hr' => ?_⟩
    have nqr : q ≠ r := ne_of_none upd_same hr'
    have hr2 : H r = none := by
      rw [upd_ne nqr.symm, upd_ne nqr.symm] at hr'
      exact hr'
    refine ⟨_, rfl, _, rfl, .inr wd.s, rfl, upd_same, (by rw [upd_ne nqr]; exact upd_same), nqr.symm, ?_⟩
    generalize hH2 : upd (upd (upd (upd (upd H q (.dK [])) q (.dK b.kv)) r (.dK [])) r (.dK [((.inr wd.s : Key), v)])) q (.dK (putK b.kv (.inr wd.s) v)) = H2
    have s2 : Same H H2 := fun z u e => by
      have n1 : z ≠ q := ne_of_none e hq
      have n2 : z ≠ r := ne_of_none e hr2
      rw [← hH2, upd_ne n1, upd_ne n2, upd_ne n2, upd_ne n1, upd_ne n1]
      exact e
    have hq2 : H2 q = some (.dK b'.kv) := by rw [← hH2, upd_same, hk]
    have hp2 := s2 _ _ hp
    refine ⟨_, rfl, p, dx, _, rfl, hp2, rfl, _, rfl, p, q, dx, _, b', rfl, hp2, ⟨rfl, rfl, rfl, rfl, rfl⟩, hq2, ok', fun H3 s3 => ?_⟩
    have hp3 := s3 _ _ hp2
    refine ⟨rfl, _, rfl, iteN rfl ⟨_, rfl, _, rfl, p, _, dx, _, rfl, hp3, T.clS, T.nSown, (by show 2 < 1000; decide), ?_⟩⟩
    refine k _ (SameB.upd (SameB.of (s2.trans s3))) ⟨ok', dx, q, ol, upd_same, ?_⟩
    rw [upd_ne npq.symm]
    exact s3 _ _ hq2
/-- StillBook.__init__ as it stands behind the top -/
structure FunS (P : Program) (K : PySem.W.Frag) (D : Addr) (x qual : Str) (st : Stmt) (kws : List (Str × V)) (f : Addr) (fd : FuncData) : Prop where
  ex : ∃ (oc : Value) (od : Option Addr) (kV doc pm : Value) (an : Option Addr) (cda : Addr) (ct : Value) (cc : Addr) (osl : Array (Option Value)) (ccl : Value) (cdd : Option Addr) (vs0 : Array Value) (ccs : Array (Option Value)) (file : Str) (tf : Tok) (cl : Value) (cld : Option Addr) (csl : Array (Option Value)),
    fd = PySem.W.ksFn x qual (defArgs st) (defBody st) (defScope st) .none kV doc pm an (.ref cda) ct cc ∧ K.lookup f = some ⟨oc, od, .func fd, osl⟩ ∧ PySem.W.codeIn K (.ref cda) qual = true ∧ KwdV K kV kws ∧
    K.lookup cda = some ⟨ccl, cdd, .fields vs0, ccs⟩ ∧ vs0[2]? = some (.str file tf) ∧ ((P.main.file : Str) == file) = true ∧ K.lookup cc = some ⟨cl, cld, .cell (some (.ref D)), csl⟩
/-- super() there -/
structure SupIn (P : Program) (K : PySem.W.Frag) (mg : Str → Option Value) (D f2 : Addr) : Prop where
  cd : ∃ cdD : ClassData, PySem.W.clsIn K D = some cdD ∧ PySem.W.alongIn K "__init__" ((cdD.mro.dropWhile (· != .ref D)).drop 1) = some (some (.ref f2))
  sub : PySem.W.mroIn K D (.ref D) = some true
  sup : mg "super" = none
  top : (P.main.scope.names.lookup ("super" : Str)).isSome = false
  opq : PySem.W.nsIn K PySem.cStatics "thirdparty.any" = some none
  ty : PySem.W.typeIn K (.ref f2) = some (.type "function")
  fi : PySem.W.fnIn K f2 = true
def psS : List Str := ["self", "counts", "still", "read", "sleep"]
theorem sc_sinit : SupScope psS (defScope (inClass (top 24) 2)) := by
  refine ⟨rfl, rfl, rfl, by decide +kernel, by decide +kernel, by decide +kernel, fun x h => ?_, rfl, rfl⟩
  have hm := PySem.mem_of_lookup h
  have hall : ∀ y ∈ (defScope (inClass (top 24) 2)).names, y.2 = .free → y.1 = ("__class__" : Str) := by decide +kernel
  exact hall _ hm rfl
def spSinit (a : Ad) : Sp := fun vs H Q _ => ∃ (p dx : Addr) (b : Bk), vs = [.ref p, b.at .counts, b.at .still, b.at .read, b.at .sleep] ∧ H p = some (.ins a.CS dx []) ∧ b.ok ∧ ∀ H', SameB p H H' → BookAt a H' p b → Q .non H'
theorem merge_kv (b : Bk) : mergeK [] b.kv = b.kv := by
  show putK (putK (putK (putK [] (Sum.inr ("counts" : Str) : Key) (b.at .counts)) (Sum.inr ("still" : Str)) (b.at .still)) (Sum.inr ("read" : Str)) (b.at .read)) (Sum.inr ("sleep" : Str)) (b.at .sleep) = _
  have h1 : valV [((Sum.inr ("counts" : Str) : Key), b.at .counts)] (Sum.inr ("still" : Str)) = none := (valS_ne (by decide +kernel)).trans rfl
  have h2 : valV [((Sum.inr ("counts" : Str) : Key), b.at .counts), (Sum.inr ("still" : Str), b.at .still)] (Sum.inr ("read" : Str)) = none := (valS_ne (by decide +kernel)).trans ((valS_ne (by decide +kernel)).trans rfl)
  have h3 : valV [((Sum.inr ("counts" : Str) : Key), b.at .counts), (Sum.inr ("still" : Str), b.at .still), (Sum.inr ("read" : Str), b.at .read)] (Sum.inr ("sleep" : Str)) = none := (valS_ne (by decide +kernel)).trans ((valS_ne (by decide +kernel)).trans ((valS_ne (by decide +kernel)).trans rfl))
  rw [show putK [] (Sum.inr ("counts" : Str) : Key) (b.at .counts) = [((Sum.inr ("counts" : Str) : Key), b.at .counts)] from putK_new _ rfl,
    show putK [((Sum.inr ("counts" : Str) : Key), b.at .counts)] (Sum.inr ("still" : Str)) (b.at .still) = [((Sum.inr ("counts" : Str) : Key), b.at .counts), (Sum.inr ("still" : Str), b.at .still)] from putK_new _ h1,
    show putK [((Sum.inr ("counts" : Str) : Key), b.at .counts), (Sum.inr ("still" : Str), b.at .still)] (Sum.inr ("read" : Str)) (b.at .read) = [((Sum.inr ("counts" : Str) : Key), b.at .counts), (Sum.inr ("still" : Str), b.at .still), (Sum.inr ("read" : Str), b.at .read)] from putK_new _ h2,
    putK_new _ h3]
  rfl
theorem ok_sinit {f2 : Addr} {fd2 : FuncData} {ps2 : List Str} (F : FunS P K a.CS "__init__" "StillBook.__init__" (inClass (top 24) 2) kwS f fd) (S : SupIn P K mg a.CS f2) (F2 : FnOk P w K mg base CX0 5 f2 fd2 ps2 (spBinit a)) (b2 : Binds K fd2 ps2 []) : FnOk P w K mg base CX0 6 f fd psS (spSinit a) := by
  obtain ⟨oc, od, kV, doc, pm, an, cda, ct, cc, osl, ccl, cdd, vs0, ccs, file, tf, cl, cld, csl, rfl, lk, hcd, _, hcode, hvs, hfile, hcell⟩ := F.ex
  obtain ⟨cdD, hD, hm⟩ := S.cd
  refine fn_super (N := psS) (ar := (defArgs (inClass (top 24) 2)).args.getD 0 ⟨"", none, ⟨0, 0, 0, 0⟩⟩) lk hcd rfl sc_sinit rfl rfl hcode hvs hfile hcell hD S.sub S.sup S.top (by decide +kernel) S.opq hm S.ty S.fi (fun A outer s H => pe_disp (pps_cons pe_str (pv 1) (pps_cons pe_str (pv 2) (pps_cons pe_str (pv 3) (pps_cons pe_str (pv 4) pps_nil)))) rfl rfl (by simp) (by decide)) F2 b2 (fun vs H Q E h => ?_) ⟨_, fun _ _ => rfl⟩ (fun vs H Q E h => ?_)
  · obtain ⟨p, dx, b, rfl, _⟩ := h
    rfl
  · obtain ⟨p, dx, b, rfl, hp, ok, k⟩ := h
    refine ⟨p, dx, [], rfl, hp, fun q hq => ⟨_, rfl, _, rfl, _, rfl, _, rfl, upd_same, b.kv, rfl, (by show 4 ≤ 15; decide), ?_⟩⟩
    have npq : p ≠ q := ne_of_none hp hq
    refine ⟨p, q, dx, b, rfl, (by rw [upd_ne npq, upd_ne npq]; exact hp), (by rw [upd_same, merge_kv]), ok, fun ol H1 s1 hp1 => ?_⟩
    refine k _ (SameB.trans (fun z u n e => ?_) s1) ⟨ok, dx, q, ol, hp1, s1 _ _ npq.symm (by rw [upd_same, merge_kv])⟩
    rw [upd_ne (ne_of_none e hq), upd_ne (ne_of_none e hq)]
    exact e
end
end Ep
namespace Ep
open PySem PySem.Spec L2 EpR
open PyProof.Rows hiding St
def tNo : TE := fun _ _ _ => False
theorem pe_nev {X : Cx} {e : Expr} : PE X e tNo := ⟨fun _ _ _ _ _ _ h => h.elim⟩
def Bk.safe (b : Bk) : Prop := b.c = 1 ∨ (b.st = false ∧ b.rd = true)
section
variable {P : Program} {w : World} {K : PySem.W.Frag} {mg : Str → Option Value} {base : Heap} {a : Ad} {f : Addr} {fd : FuncData}
def spTwin (a : Ad) : Sp := fun vs H Q _ => ∃ (p : Addr) (b : Bk), vs = [.ref p] ∧ BookAt a H p b ∧ ∀ q H', Same H H' → BookAt a H' q b → Q (.ref q) H'
theorem sc_twin : FnScope ["self"] ["self"] (defScope (inClass (top 24) 5)) := ⟨rfl, rfl, rfl, by decide +kernel, rfl, by decide +kernel, by decide +kernel⟩
theorem ok_twin (T : TX w K mg a) (c_StillBookK : MaN P w K mg base 6 "StillBook" a.CS 1 ["still", "read", "sleep"] (spSinit a)) (F : FunP K "twin" "StillBook.twin" (inClass (top 24) 5) [] [] f fd) : FnOk P w K mg base CX0 8 f fd ["self"] (spTwin a) := by
  refine F.ok sc_twin (fun vs H Q E h => ?_) (fun cdv A outer s H vs Q E hr h => ⟨_, PSs.nox ((pss_one (ps_ret (pe_kn c_StillBookK hr (by decide) rfl (pa_cons (pe_dget (hu_of hr) (pe_fld (pv 0) rfl) pe_str (by intro _ _; rfl)) pa_nil) (pk_cons (pe_dget (hu_of hr) (pe_fld (pv 0) rfl) pe_str (by intro _ _; rfl)) (pk_cons (pe_dget (hu_of hr) (pe_fld (pv 0) rfl) pe_str (by intro _ _; rfl)) (pk_cons (pe_dget (hu_of hr) (pe_fld (pv 0) rfl) pe_str (by intro _ _; rfl)) pk_nil))))))), ?_⟩)
  · obtain ⟨p, b, rfl, _⟩ := h
    rfl
  · obtain ⟨p, b, rfl, ⟨ok, dx, od, ol, hp, ho⟩, k⟩ := h
    refine ⟨_, rfl, p, _, dx, _, _, rfl, hp, T.clS, T.nSown, rfl, od, b.at .counts, rfl, .inl ⟨_, .inr Wd.counts.s, .inl ho, rfl, (b.get .counts).symm⟩,
      _, rfl, p, _, dx, _, _, rfl, hp, T.clS, T.nSown, rfl, od, b.at .still, rfl, .inl ⟨_, .inr Wd.still.s, .inl ho, rfl, (b.get .still).symm⟩,
      _, rfl, p, _, dx, _, _, rfl, hp, T.clS, T.nSown, rfl, od, b.at .read, rfl, .inl ⟨_, .inr Wd.read.s, .inl ho, rfl, (b.get .read).symm⟩,
      _, rfl, p, _, dx, _, _, rfl, hp, T.clS, T.nSown, rfl, od, b.at .sleep, rfl, .inl ⟨_, .inr Wd.sleep.s, .inl ho, rfl, (b.get .sleep).symm⟩, rfl, rfl, fun x dy hx hy hne => ?_⟩
    refine ⟨x, dy, b, rfl, upd_same, ok, fun H1 s1 hb => ⟨rfl, k x H1 (fun z u e => s1 z u (ne_of_none e hx) ?_) hb⟩⟩
    rw [upd_ne (ne_of_none e hx), upd_ne (ne_of_none e hy)]
    exact e
def spIsBook (a : Ad) : Sp := fun vs H Q _ => ∃ (p dx : Addr) (fs : List (Str × V)), vs = [.ref p] ∧ H p = some (.ins a.CS dx fs) ∧ ∀ H', Same H H' → Q (.bl true) H'
theorem sc_is_book : FnScope ["value"] ["value"] (defScope (top 25)) := ⟨rfl, rfl, rfl, by decide +kernel, rfl, by decide +kernel, by decide +kernel⟩
theorem ok_is_book (T : TX w K mg a) (F : FunP K "is_book" "is_book" (top 25) [] [] f fd) : FnOk P w K mg base CX0 1 f fd ["value"] (spIsBook a) := by
  refine F.ok sc_is_book (fun vs H Q E h => ?_) (fun cdv A outer s H vs Q E hr h => ⟨_, PSs.nox ((pss_one (ps_ret (pe_callB call_isiT (by rfl) T.n_isinstance boot_isinstance (pa_cons (pv 0) (pa_cons (pe_tup (pa_cons (C8.pe_gc rfl T.g_EpochBook) (pa_cons (C8.pe_gc rfl T.g_LookBook) (pa_cons (C8.pe_gc rfl T.g_StillBook) pa_nil)))) pa_nil)))))), ?_⟩)
  · obtain ⟨p, dx, fs, rfl, _⟩ := h
    rfl
  · obtain ⟨p, dx, fs, rfl, hp, k⟩ := h
    refine ⟨_, rfl, (by show 3 ≤ sizeLine; decide), fun q hq => ?_⟩
    have hp2 : upd H q (.tup [.ref a.CE, .ref a.CL, .ref a.CS]) p = some (.ins a.CS dx fs) := by
      rw [upd_ne (ne_of_none hp hq)]
      exact hp
    refine ⟨_, q, _, _, _, true, rfl, upd_same, .cons (.own _) (.cons (.own _) (.cons (.own _) .nil)), ins_ty T.insS hp2, ?_, k _ (same_upd hq)⟩
    show (match PySem.W.kitOne K (.ref a.CS) (.ref a.CE) with
      | some true => some true
      | some false => PySem.W.kitAny K (.ref a.CS) [.ref a.CL, .ref a.CS]
      | none => none) = some true
    rw [T.kitSE]
    show (match PySem.W.kitOne K (.ref a.CS) (.ref a.CL) with
      | some true => some true
      | some false => PySem.W.kitAny K (.ref a.CS) [.ref a.CS]
      | none => none) = some true
    rw [T.kitSL]
    show (match PySem.W.kitOne K (.ref a.CS) (.ref a.CS) with
      | some true => some true
      | some false => PySem.W.kitAny K (.ref a.CS) []
      | none => none) = some true
    rw [show PySem.W.kitOne K (.ref a.CS) (.ref a.CS) = some true by unfold PySem.W.kitOne; simp]
def spLookB (a : Ad) : Sp := fun vs H Q _ => ∃ (p dx : Addr) (fs : List (Str × V)), vs = [.ref p] ∧ H p = some (.ins a.CS dx fs) ∧ ∀ H', Same H H' → Q .non H'
theorem sc_look_at_book : FnScope ["value"] ["value"] (defScope (top 26)) := ⟨rfl, rfl, rfl, by decide +kernel, rfl, by decide +kernel, by decide +kernel⟩
theorem ok_look_at_book (c_is_book : Cal P w K mg base 1 "is_book" (spIsBook a)) (F : FunP K "look_at_book" "look_at_book" (top 26) [] [] f fd) : FnOk P w K mg base CX0 2 f fd ["value"] (spLookB a) := by
  refine F.ok sc_look_at_book (fun vs H Q E h => ?_) (fun cdv A outer s H vs Q E hr h => ⟨_, PSs.nox ((pss_one (ps_if (pt_not (pt_val (pe_c c_is_book hr (by decide) rfl (pa_cons (pv 0) pa_nil)))) (pss_one ps_never) pss_nil))), ?_⟩)
  · obtain ⟨p, dx, fs, rfl, _⟩ := h
    rfl
  · obtain ⟨p, dx, fs, rfl, hp, k⟩ := h
    exact ⟨_, rfl, p, dx, fs, rfl, hp, fun H1 s1 => ⟨_, rfl, iteF (k _ s1)⟩⟩
def spSafe (a : Ad) : Sp := fun vs H Q _ => ∃ (p : Addr) (b : Bk), vs = [.ref p] ∧ BookAt a H p b ∧ b.safe ∧ ∀ H', Same H H' → Q (.bl true) H'
theorem sc_is_safe : FnScope ["book", "needed"] ["book"] (defScope (top 29)) := ⟨rfl, rfl, rfl, by decide +kernel, rfl, by decide +kernel, by decide +kernel⟩
theorem ok_is_safe (c_look_at_book : Cal P w K mg base 2 "look_at_book" (spLookB a)) (p_way : Prp P w K mg base 1 a.CS "way" (spWay a)) (c_getitem : Gti P w K mg base 2 a.CS (spGet a)) (F : FunP K "is_safe" "is_safe" (top 29) [] [] f fd) : FnOk P w K mg base CX0 4 f fd ["book"] (spSafe a) := by
  refine F.ok sc_is_safe (fun vs H Q E h => ?_) (fun cdv A outer s H vs Q E hr h => ⟨_, PSs.nox ((pss_cons (ps_expr (pe_c c_look_at_book hr (by decide) rfl (pa_cons (pv 0) pa_nil))) (pss_cons (ps_if (pt_cmpR op_eq (pe_p p_way hr (by decide) (pv 0)) pe_str (nomark _)) pss_never pss_nil) (pss_cons (ps_if (pt_cmpR op_eq (pe_p p_way hr (by decide) (pv 0)) pe_str (nomark _)) pss_never pss_nil) (pss_cons (ps_if (pt_cmpR op_in_seq (pe_g c_getitem hr (by decide) (pv 0) pe_str) (pe_tup (pa_cons pe_str (pa_cons pe_str pa_nil))) (by with_unfolding_all rfl)) (pss_one (ps_ret pe_bl)) pss_nil) (pss_one (ps_ret (pe_or (pe_cmpR op_eq (pe_g c_getitem hr (by decide) (pv 0) pe_str) pe_int (nomark _)) (pe_one (pe_and (pe_cmpR op_eq (pe_g c_getitem hr (by decide) (pv 0) pe_str) pe_str (nomark _)) (pe_one (pe_cmpR op_eq (pe_g c_getitem hr (by decide) (pv 0) pe_str) pe_str (nomark _))))))))))))), ?_⟩)
  · obtain ⟨p, b, rfl, _⟩ := h
    rfl
  · obtain ⟨p, b, rfl, hb, hsf, k⟩ := h
    obtain ⟨ok, dx, od, ol, hp, ho⟩ := id hb
    refine ⟨_, rfl, p, dx, _, rfl, hp, fun H1 s1 => ?_⟩
    have nf : NoF (bkF od ol) := ⟨rfl, rfl, rfl, rfl, rfl⟩
    refine ⟨_, rfl, p, dx, _, rfl, s1 _ _ hp, p, dx, _, rfl, s1 _ _ hp, nf, rfl, _, rfl, iteD (by decide +kernel) ?_⟩
    refine ⟨_, rfl, p, dx, _, rfl, s1 _ _ hp, p, dx, _, rfl, s1 _ _ hp, nf, rfl, _, rfl, iteD (by decide +kernel) ?_⟩
    refine ⟨_, rfl, p, dx, _, rfl, s1 _ _ hp, p, b, .sleep, rfl, hb.same s1, (by show 2 ≤ sizeLine; decide), fun q hq => ?_⟩
    generalize h_H2 : upd H1 q _ = H2
    have s_H2 : Same H1 H2 := h_H2 ▸ same_upd hq
    have e_H2 := (congrFun h_H2.symm q).trans upd_same
    have s2 : Same H H2 := s1.trans s_H2
    refine ⟨q, _, rfl, .inr (sqT_of e_H2), rfl, (by decide +kernel), false, ?_, iteF ?_⟩
    · show V.bl (inV (V.str (slS b.sl)) _) = _
      generalize b.sl = z
      cases z <;> decide +kernel
    refine ⟨_, rfl, p, dx, _, rfl, s2 _ _ hp, p, b, .counts, rfl, hb.same s2, rfl, _, rfl, ?_⟩
    by_cases h1 : b.c = 1
    · exact iteDT (by show V.int b.c = V.int 1; rw [h1]) (k _ s2)
    · refine iteD (fun e => h1 (V.int.inj e)) ?_
      rcases hsf with e | ⟨e1, e2⟩
      · exact absurd e h1
      · refine ⟨_, rfl, p, dx, _, rfl, s2 _ _ hp, p, b, .still, rfl, hb.same s2, rfl, _, rfl, iteDT (by show V.str (stS b.st) = _; rw [e1]; decide +kernel) ?_⟩
        exact ⟨_, rfl, p, dx, _, rfl, s2 _ _ hp, p, b, .read, rfl, hb.same s2, rfl, blT (Q := Q) (by show V.str (rdS b.rd) = _; rw [e2]; decide +kernel) (k _ s2)⟩
def spTinit (a : Ad) : Sp := fun vs H Q _ => ∃ (s p dx : Addr) (g : Cg), vs = [.ref s, .ref p, .int g.r, .int g.t, .int 0, .int g.th] ∧ H s = some (.ins a.CT dx []) ∧ BookAt a H p g.b ∧ g.ok ∧ p ≠ s ∧ ∀ H', SameB s H H' → SetAt a H' s g → Q .non H'
theorem sc_tinit : FnScope ["self", "book", "readers", "takers", "steppers", "things", "most", "word", "value", "low", "high"] ["self", "book", "readers", "takers", "steppers", "things"] (defScope (inClass (top 44) 0)) := ⟨rfl, rfl, rfl, by decide +kernel, rfl, by decide +kernel, by decide +kernel⟩
theorem ok_tinit (T : TX w K mg a) (c_look_at_book : Cal P w K mg base 2 "look_at_book" (spLookB a)) (p_way : Prp P w K mg base 1 a.CS "way" (spWay a)) (c_is_number : Cal P w K mg base 2 "is_number" spNum) (m_twin : Met P w K mg base 8 a.CS "twin" (spTwin a)) (F : FunP K "__init__" "Setting.__init__" (inClass (top 44) 0) [.int 1, .int 1, .int 0] [("things", .int 3)] f fd) : FnOk P w K mg base CX0 9 f fd ["self", "book", "readers", "takers", "steppers", "things"] (spTinit a) := by
  refine F.ok sc_tinit (fun vs H Q E h => ?_) (fun cdv A outer s H vs Q E hr h => ⟨_, PSs.nox ((pss_cons (ps_expr (pe_c c_look_at_book hr (by decide) rfl (pa_cons (pv 1) pa_nil))) (pss_cons (ps_set (i := 6) sc_tinit.nd rfl (by first | exact Or.inl rfl | exact Or.inr rfl) (pe_ifExp (pt_cmpR op_eq (pe_p p_way hr (by decide) (pv 1)) pe_str (nomark _)) pe_nev pe_int)) (pss_cons (ps_for PassesOwn.never rfl (pi_list (pe_lst (pa_cons (pe_tup (pa_cons pe_str (pa_cons (pv 2) (pa_cons pe_int (pa_cons (C8.pe_gc rfl T.g_MOST_READERS) pa_nil))))) (pa_cons (pe_tup (pa_cons pe_str (pa_cons (pv 3) (pa_cons pe_int (pa_cons (C8.pe_gc rfl T.g_MOST_TAKERS) pa_nil))))) (pa_cons (pe_tup (pa_cons pe_str (pa_cons (pv 4) (pa_cons pe_int (pa_cons (pv 6) pa_nil))))) (pa_cons (pe_tup (pa_cons pe_str (pa_cons (pv 5) (pa_cons pe_int (pa_cons (C8.pe_gc rfl T.g_MOST_THINGS) pa_nil))))) pa_nil)))))) (pg_tup rfl (pgs_cons (pg_name (i := 7) sc_tinit.nd rfl (by first | exact Or.inl rfl | exact Or.inr rfl)) (pgs_cons (pg_name (i := 8) sc_tinit.nd rfl (by first | exact Or.inl rfl | exact Or.inr rfl)) (pgs_cons (pg_name (i := 9) sc_tinit.nd rfl (by first | exact Or.inl rfl | exact Or.inr rfl)) (pgs_cons (pg_name (i := 10) sc_tinit.nd rfl (by first | exact Or.inl rfl | exact Or.inr rfl)) pgs_nil))))) (pss_one (ps_if (pt_not (pt_val (pe_c c_is_number hr (by decide) rfl (pa_cons (pv 8) (pa_cons (pv 9) (pa_cons (pv 10) pa_nil)))))) (pss_one ps_never) pss_nil))) (pss_cons (ps_fld (pv 0) (pe_m0 m_twin hr (by decide) (pv 1)) rfl) (pss_one (ps_fld (pv 0) (pe_tup (pa_cons (pv 2) (pa_cons (pv 3) (pa_cons (pv 4) (pa_cons (pv 5) pa_nil))))) rfl))))))), ?_⟩)
  · obtain ⟨s, p, dx, g, rfl, _⟩ := h
    rfl
  · obtain ⟨t, p, dx, g, rfl, ht, hb, okg, npt, k⟩ := h
    obtain ⟨ok, dy, od, ol, hp, ho⟩ := id hb
    refine ⟨_, rfl, p, dy, _, rfl, hp, fun H1 s1 => ?_⟩
    have nf : NoF (bkF od ol) := ⟨rfl, rfl, rfl, rfl, rfl⟩
    refine ⟨_, rfl, p, dy, _, rfl, s1 _ _ hp, p, dy, _, rfl, s1 _ _ hp, nf, rfl, _, rfl, iteD (by decide +kernel) ?_⟩
    refine ⟨_, rfl, (by show 4 ≤ sizeLine; decide), fun q1 h1 => ?_⟩
    generalize h_H2 : upd H1 q1 _ = H2
    have s_H2 : Same H1 H2 := h_H2 ▸ same_upd h1
    have e_H2 := (congrFun h_H2.symm q1).trans upd_same
    refine ⟨_, rfl, (by show 4 ≤ sizeLine; decide), fun q2 h2 => ?_⟩
    generalize h_H3 : upd H2 q2 _ = H3
    have s_H3 : Same H2 H3 := h_H3 ▸ same_upd h2
    have e_H3 := (congrFun h_H3.symm q2).trans upd_same
    refine ⟨_, rfl, _, rfl, (by show 4 ≤ sizeLine; decide), fun q3 h3 => ?_⟩
    generalize h_H4 : upd H3 q3 _ = H4
    have s_H4 : Same H3 H4 := h_H4 ▸ same_upd h3
    have e_H4 := (congrFun h_H4.symm q3).trans upd_same
    refine ⟨_, rfl, (by show 4 ≤ sizeLine; decide), fun q4 h4 => ?_⟩
    generalize h_H5 : upd H4 q4 _ = H5
    have s_H5 : Same H4 H5 := h_H5 ▸ same_upd h4
    have e_H5 := (congrFun h_H5.symm q4).trans upd_same
    refine ⟨(by show 4 ≤ sizeLine; decide), fun l hl => ?_⟩
    generalize h_H6 : upd H5 l _ = H6
    have s_H6 : Same H5 H6 := h_H6 ▸ same_upd hl
    have e_H6 := (congrFun h_H6.symm l).trans upd_same
    obtain ⟨_, r1, r2, t1, t2, b1, b2⟩ := okg
    have sA : Same H H6 := s1.trans (s_H2.trans (s_H3.trans (s_H4.trans (s_H5.trans s_H6))))
    have hall : ∀ (i : Nat) (x : V), ([.ref q1, .ref q2, .ref q3, .ref q4] : List V)[i]? = some x → ∃ (q : Addr) (nm : Str) (v lo hi : Int), x = .ref q ∧ H6 q = some (.tup [.str nm, .int v, .int lo, .int hi]) ∧ lo ≤ v ∧ v ≤ hi := by
      intro i x hx
      match i, hx with
      | 0, hx => exact ⟨q1, _, _, _, _, (Option.some.inj hx).symm, s_H6 _ _ (s_H5 _ _ (s_H4 _ _ (s_H3 _ _ e_H2))), r1, r2⟩
      | 1, hx => exact ⟨q2, _, _, _, _, (Option.some.inj hx).symm, s_H6 _ _ (s_H5 _ _ (s_H4 _ _ e_H3)), t1, t2⟩
      | 2, hx => exact ⟨q3, _, _, _, _, (Option.some.inj hx).symm, s_H6 _ _ (s_H5 _ _ e_H4), by decide, by decide⟩
      | 3, hx => exact ⟨q4, _, _, _, _, (Option.some.inj hx).symm, s_H6 _ _ e_H5, b1, b2⟩
      | (n + 4), hx => exact nomatch hx
    refine ⟨l, rfl, ⟨_, sqL_of e_H6⟩, for_list (K := K) (a := l) (xs := [.ref q1, .ref q2, .ref q3, .ref q4]) (fun i σ H' => H' = H6 ∧ ∃ v1 v2 v3 v4, σ = [some (.ref t), some (.ref p), some (.int g.r), some (.int g.t), some (.int 0), some (.int g.th), some (.int 0), v1, v2, v3, v4]) ⟨rfl, _, _, _, _, rfl⟩ (fun i σ H' _ hP => by rw [hP.1]; exact sqL_of e_H6) ?_ ?_⟩
    · rintro i x σ H' hx ⟨rfl, v1, v2, v3, v4, rfl⟩
      obtain ⟨q, nm, v, lo, hi, rfl, hq, c1, c2⟩ := hall i x hx
      exact ⟨q, _, rfl, sqT_of hq, rfl, _, _, rfl, _, _, rfl, _, _, rfl, _, _, rfl, rfl, _, rfl, _, rfl, _, rfl, v, lo, hi, rfl, c1, c2, _, rfl, iteF ⟨rfl, _, _, _, _, rfl⟩⟩
    · rintro σ H' ⟨rfl, v1, v2, v3, v4, rfl⟩
      refine ⟨_, rfl, p, dy, _, rfl, sA _ _ hp, rfl, p, g.b, rfl, hb.same sA, fun kp H7 s7 hk7 => ?_⟩
      have ht7 := s7 _ _ (sA _ _ ht)
      refine ⟨_, rfl, t, _, dx, [], rfl, ht7, T.clT, T.nTkept, (by show 0 < 1000; decide), ?_⟩
      refine ⟨_, rfl, _, rfl, _, rfl, _, rfl, (by show 4 ≤ sizeLine; decide), fun hn hhn => ?_⟩
      have nth : t ≠ hn := ne_of_none upd_same hhn
      have ht8 : upd (upd H7 t (.ins a.CT dx (putF "kept" (.ref kp) []))) hn (.tup [.int g.r, .int g.t, .int 0, .int g.th]) t = some (.ins a.CT dx (putF "kept" (.ref kp) [])) := (upd_ne nth).trans upd_same
      refine ⟨_, rfl, t, _, dx, _, rfl, ht8, T.clT, T.nThands, (by show 1 < 1000; decide), ?_⟩
      have hn7 : H7 hn = none := by
        rw [upd_ne nth.symm] at hhn
        exact hhn
      have sB : SameB t H7 (upd (upd (upd H7 t (.ins a.CT dx (putF "kept" (.ref kp) []))) hn (.tup [.int g.r, .int g.t, .int 0, .int g.th])) t (.ins a.CT dx (putF "hands" (.ref hn) (putF "kept" (.ref kp) [])))) := fun z u n e => by
        rw [upd_ne n, upd_ne (ne_of_none e hn7), upd_ne n]
        exact e
      refine k _ (SameB.trans (SameB.of (sA.trans s7)) sB) ⟨⟨ok, r1, r2, t1, t2, b1, b2⟩, dx, kp, hn, upd_same, (upd_ne nth.symm).trans upd_same, ?_⟩
      obtain ⟨ok7, dz, od7, ol7, hp7, ho7⟩ := hk7
      have nkt : kp ≠ t := fun e => by
        rw [e, ht7] at hp7
        injection Option.some.inj hp7 with _ _ e3
        exact absurd e3 (by unfold bkF; simp)
      have not7 : od7 ≠ t := fun e => by
        rw [e, ht7] at ho7
        cases ho7
      exact ⟨ok7, dz, od7, ol7, sB _ _ nkt hp7, sB _ _ not7 ho7⟩
end
end Ep
namespace Ep
open PySem PySem.Spec L2 EpR
open PyProof.Rows hiding St
def mdS : EpM.Md → Str
  | .idle => "idle" | .noting => "noting" | .noted => "noted" | .waiting => "waiting" | .passed => "passed"
def ddS : EpM.Dd → Str
  | .get => "get" | .still => "still" | .sleep => "sleep" | .wake => "wake" | .use => "use" | .fin => "end" | .take => "take" | .note => "note" | .look => "look" | .free => "free"
theorem ddS_inj {a b : EpM.Dd} (h : ddS a = ddS b) : a = b := by
  revert h
  cases a <;> cases b <;> first | exact fun _ => rfl | exact fun h => absurd h (by decide +kernel)
def kdS (b : Bool) : Str := if b then "taker" else "reader"
def oV : Option Int → V
  | none => .non
  | some i => .int i
def rdS' (r : EpM.Rd) : Str := if r.th.isSome then "inside" else "out"
def rdT (r : EpM.Rd) : List V := [.str (rdS' r), .int r.cnt, .bl r.flag, oV r.th]
def RdAt (H : Hp) (q : Addr) (r : EpM.Rd) : Prop := H q = some (.tup (rdT r))
def TkAt (H : Hp) (q : Addr) (t : EpM.Tk) : Prop := ∃ nq, H q = some (.tup [.str (mdS t.md), .int (t.pos : Nat), .ref nq, oV t.out]) ∧ H nq = some (.tup (t.nt.map V.int))
def RowsR (H : Hp) (xs : List V) (rs : List EpM.Rd) : Prop := xs.length = rs.length ∧ ∀ (i : Nat) (r : EpM.Rd), rs[i]? = some r → ∃ q, xs[i]? = some (V.ref q) ∧ RdAt H q r
def RowsT (H : Hp) (xs : List V) (ts : List EpM.Tk) : Prop := xs.length = ts.length ∧ ∀ (i : Nat) (t : EpM.Tk), ts[i]? = some t → ∃ q, xs[i]? = some (V.ref q) ∧ TkAt H q t
/-- the tuples are as they were -/
def Tups (H H' : Hp) : Prop := ∀ q xs, H q = some (.tup xs) → H' q = some (.tup xs)
theorem Tups.of {H H' : Hp} (s : Same H H') : Tups H H' := fun q xs e => s q _ e
theorem Tups.upd {H : Hp} {p : Addr} {o u : HO} (h : H p = some u) (hu : ∀ xs, u ≠ .tup xs) : Tups H (upd H p o) := fun q xs e => by
  rw [upd_ne (fun z => by rw [z, h] at e; exact hu _ (Option.some.inj e))]
  exact e
theorem RdAt.mono {H H' : Hp} {q : Addr} {r : EpM.Rd} (s : Tups H H') (h : RdAt H q r) : RdAt H' q r := s _ _ h
theorem TkAt.mono {H H' : Hp} {q : Addr} {t : EpM.Tk} (s : Tups H H') (h : TkAt H q t) : TkAt H' q t := let ⟨nq, h1, h2⟩ := h; ⟨nq, s _ _ h1, s _ _ h2⟩
theorem RowsR.mono {H H' : Hp} {xs : List V} {rs : List EpM.Rd} (s : Tups H H') (h : RowsR H xs rs) : RowsR H' xs rs := ⟨h.1, fun i r e => let ⟨q, h1, h2⟩ := h.2 i r e; ⟨q, h1, h2.mono s⟩⟩
theorem RowsT.mono {H H' : Hp} {xs : List V} {ts : List EpM.Tk} (s : Tups H H') (h : RowsT H xs ts) : RowsT H' xs ts := ⟨h.1, fun i r e => let ⟨q, h1, h2⟩ := h.2 i r e; ⟨q, h1, h2.mono s⟩⟩
theorem RowsR.set {H : Hp} {xs : List V} {rs : List EpM.Rd} {k : Nat} {q : Addr} {r : EpM.Rd} (h : RowsR H xs rs) (hq : RdAt H q r) : RowsR H (xs.set k (V.ref q)) (rs.set k r) := by
  refine ⟨by rw [List.length_set, List.length_set]; exact h.1, fun i r' e => ?_⟩
  by_cases z : k = i
  · subst z
    have hk : k < rs.length := by
      have := (List.getElem?_eq_some_iff.mp e).1
      rwa [List.length_set] at this
    rw [List.getElem?_set_self hk] at e
    cases e
    exact ⟨q, by rw [List.getElem?_set_self (by rw [h.1]; exact hk)], hq⟩
  · rw [List.getElem?_set_ne z] at e
    rw [List.getElem?_set_ne z]
    exact h.2 i r' e
theorem RowsT.set {H : Hp} {xs : List V} {ts : List EpM.Tk} {k : Nat} {q : Addr} {t : EpM.Tk} (h : RowsT H xs ts) (hq : TkAt H q t) : RowsT H (xs.set k (V.ref q)) (ts.set k t) := by
  refine ⟨by rw [List.length_set, List.length_set]; exact h.1, fun i r' e => ?_⟩
  by_cases z : k = i
  · subst z
    have hk : k < ts.length := by
      have := (List.getElem?_eq_some_iff.mp e).1
      rwa [List.length_set] at this
    rw [List.getElem?_set_self hk] at e
    cases e
    exact ⟨q, by rw [List.getElem?_set_self (by rw [h.1]; exact hk)], hq⟩
  · rw [List.getElem?_set_ne z] at e
    rw [List.getElem?_set_ne z]
    exact h.2 i r' e
/-- sizes stay small -/
structure Small (s : EpM.St) : Prop where
  r : s.rs.length ≤ 3
  t : s.ts.length ≤ 2
  f : s.fr.length ≤ 100
def StateAt (H : Hp) (st : Addr) (s : EpM.St) : Prop := ∃ (rt tt ft : Addr) (xs ys : List V) (fs : List Int), H st = some (.tup [.int s.place, .ref rt, .ref tt, .ref ft]) ∧ H rt = some (.tup xs) ∧ H tt = some (.tup ys) ∧ H ft = some (.tup (fs.map V.int)) ∧ RowsR H xs s.rs ∧ RowsT H ys s.ts ∧ fs.Perm s.fr
theorem StateAt.mono {H H' : Hp} {st : Addr} {s : EpM.St} (m : Tups H H') (h : StateAt H st s) : StateAt H' st s :=
  let ⟨rt, tt, ft, xs, ys, fs, h1, h2, h3, h4, h5, h6, h7⟩ := h
  ⟨rt, tt, ft, xs, ys, fs, m _ _ h1, m _ _ h2, m _ _ h3, m _ _ h4, h5.mono m, h6.mono m, h7⟩
def Cg.cf (g : Cg) : EpM.Cf := ⟨g.b.c, g.b.st, g.b.rd, g.b.sl, g.th⟩
def wF (sg od : Addr) (place : Int) (rl tl fl : Addr) : List (Str × V) := [("setting", .ref sg), ("own", .ref od), ("spot", .int place), ("reader_rows", .ref rl), ("taker_rows", .ref tl), ("freed", .ref fl), ("bad", .non)]
/-- a world that was made over the heap H0 -/
structure WAt (a : Ad) (H0 H : Hp) (p dx sg od rl tl fl : Addr) (g : Cg) (s : EpM.St) (xs ys : List V) (fs : List Int) : Prop where
  s0 : Same H0 H
  p0 : H0 p = none
  r0 : H0 rl = none
  t0 : H0 tl = none
  f0 : H0 fl = none
  hp : H p = some (.ins a.CW dx (wF sg od s.place rl tl fl))
  hr : H rl = some (.lst xs)
  ht : H tl = some (.lst ys)
  hf : H fl = some (.lst (fs.map V.int))
  hs : SetAt a H0 sg g
  ho : H0 od = some (.dK g.b.kv)
  rr : RowsR H xs s.rs
  tt : RowsT H ys s.ts
  ff : fs.Perm s.fr
  n1 : rl ≠ tl
  n2 : rl ≠ fl
  n3 : tl ≠ fl
section
variable {a : Ad} {H0 H H1 : Hp} {p dx sg od rl tl fl : Addr} {g : Cg} {s : EpM.St} {xs ys : List V} {fs : List Int}
theorem WAt.same (W : WAt a H0 H p dx sg od rl tl fl g s xs ys fs) (m : Same H H1) : WAt a H0 H1 p dx sg od rl tl fl g s xs ys fs :=
  ⟨W.s0.trans m, W.p0, W.r0, W.t0, W.f0, m _ _ W.hp, m _ _ W.hr, m _ _ W.ht, m _ _ W.hf, W.hs, W.ho, W.rr.mono (.of m), W.tt.mono (.of m), W.ff, W.n1, W.n2, W.n3⟩
theorem WAt.npr (W : WAt a H0 H p dx sg od rl tl fl g s xs ys fs) : p ≠ rl := ne_of W.hp W.hr (by intro q; cases q)
theorem WAt.npt (W : WAt a H0 H p dx sg od rl tl fl g s xs ys fs) : p ≠ tl := ne_of W.hp W.ht (by intro q; cases q)
theorem WAt.npf (W : WAt a H0 H p dx sg od rl tl fl g s xs ys fs) : p ≠ fl := ne_of W.hp W.hf (by intro q; cases q)
theorem same0_upd {o : HO} {q : Addr} (s0 : Same H0 H) (q0 : H0 q = none) : Same H0 (upd H q o) := same_upd' s0 q0
theorem WAt.setR {k : Nat} {q : Addr} {r : EpM.Rd} (W : WAt a H0 H p dx sg od rl tl fl g s xs ys fs) (hq : RdAt H q r) : WAt a H0 (upd H rl (.lst (xs.set k (V.ref q)))) p dx sg od rl tl fl g { s with rs := s.rs.set k r } (xs.set k (V.ref q)) ys fs := by
  have m : Tups H (upd H rl (.lst (xs.set k (V.ref q)))) := Tups.upd W.hr (by intro _ z; cases z)
  exact ⟨same0_upd W.s0 W.r0, W.p0, W.r0, W.t0, W.f0, (upd_ne W.npr).trans W.hp, upd_same, (upd_ne W.n1.symm).trans W.ht, (upd_ne W.n2.symm).trans W.hf, W.hs, W.ho, (W.rr.mono m).set (hq.mono m), W.tt.mono m, W.ff, W.n1, W.n2, W.n3⟩
theorem WAt.setT {k : Nat} {q : Addr} {t : EpM.Tk} (W : WAt a H0 H p dx sg od rl tl fl g s xs ys fs) (hq : TkAt H q t) : WAt a H0 (upd H tl (.lst (ys.set k (V.ref q)))) p dx sg od rl tl fl g { s with ts := s.ts.set k t } xs (ys.set k (V.ref q)) fs := by
  have m : Tups H (upd H tl (.lst (ys.set k (V.ref q)))) := Tups.upd W.ht (by intro _ z; cases z)
  exact ⟨same0_upd W.s0 W.t0, W.p0, W.r0, W.t0, W.f0, (upd_ne W.npt).trans W.hp, (upd_ne W.n1).trans W.hr, upd_same, (upd_ne W.n3.symm).trans W.hf, W.hs, W.ho, W.rr.mono m, (W.tt.mono m).set (hq.mono m), W.ff, W.n1, W.n2, W.n3⟩
theorem WAt.spot {pl : Int} (W : WAt a H0 H p dx sg od rl tl fl g s xs ys fs) : WAt a H0 (upd H p (.ins a.CW dx (wF sg od pl rl tl fl))) p dx sg od rl tl fl g { s with place := pl } xs ys fs := by
  have m : Tups H (upd H p (.ins a.CW dx (wF sg od pl rl tl fl))) := Tups.upd W.hp (by intro _ z; cases z)
  exact ⟨same0_upd W.s0 W.p0, W.p0, W.r0, W.t0, W.f0, upd_same, (upd_ne W.npr.symm).trans W.hr, (upd_ne W.npt.symm).trans W.ht, (upd_ne W.npf.symm).trans W.hf, W.hs, W.ho, W.rr.mono m, W.tt.mono m, W.ff, W.n1, W.n2, W.n3⟩
theorem WAt.free {fl' : Addr} {fs' fr' : List Int} (W : WAt a H0 H p dx sg od rl tl fl g s xs ys fs) (h0 : H0 fl' = none) (hf : H fl' = some (.lst (fs'.map V.int))) (hr : rl ≠ fl') (ht : tl ≠ fl') (hp : fs'.Perm fr') :
    WAt a H0 (upd H p (.ins a.CW dx (wF sg od s.place rl tl fl'))) p dx sg od rl tl fl' g { s with fr := fr' } xs ys fs' := by
  have m : Tups H (upd H p (.ins a.CW dx (wF sg od s.place rl tl fl'))) := Tups.upd W.hp (by intro _ z; cases z)
  have npf : p ≠ fl' := ne_of W.hp hf (by intro q; cases q)
  exact ⟨same0_upd W.s0 W.p0, W.p0, W.r0, W.t0, h0, upd_same, (upd_ne W.npr.symm).trans W.hr, (upd_ne W.npt.symm).trans W.ht, (upd_ne npf.symm).trans hf, W.hs, W.ho, W.rr.mono m, W.tt.mono m, hp, W.n1, hr, ht⟩
end
theorem putF_spot (sg od : Addr) (pl pl' : Int) (rl tl fl : Addr) : putF "spot" (.int pl') (wF sg od pl rl tl fl) = wF sg od pl' rl tl fl := by
  unfold wF
  simp only [putF, show ¬ (("setting" : Str) = "spot") by decide +kernel, show ¬ (("own" : Str) = "spot") by decide +kernel, if_false, if_true]
theorem putF_freed (sg od : Addr) (pl : Int) (rl tl fl fl' : Addr) : putF "freed" (.ref fl') (wF sg od pl rl tl fl) = wF sg od pl rl tl fl' := by
  unfold wF
  simp only [putF, show ¬ (("setting" : Str) = "freed") by decide +kernel, show ¬ (("own" : Str) = "freed") by decide +kernel, show ¬ (("spot" : Str) = "freed") by decide +kernel, show ¬ (("reader_rows" : Str) = "freed") by decide +kernel, show ¬ (("taker_rows" : Str) = "freed") by decide +kernel, if_false, if_true]
theorem sameB_upd {p : Addr} {H : Hp} {o : HO} : SameB p H (upd H p o) := fun b u n e => (upd_ne n).trans e
/-- a move -/
def MvAt (H : Hp) (q : Addr) (v : EpM.Mv) : Prop := H q = some (.tup [.str (kdS v.tk), .int (v.k : Nat), .str (ddS v.d)])
def Mvs (H : Hp) (xs : List V) (ms : List EpM.Mv) : Prop := xs.length = ms.length ∧ ∀ (i : Nat) (v : EpM.Mv), ms[i]? = some v → ∃ q, xs[i]? = some (V.ref q) ∧ MvAt H q v
theorem Mvs.mono {H H' : Hp} {xs : List V} {ms : List EpM.Mv} (s : Tups H H') (h : Mvs H xs ms) : Mvs H' xs ms := ⟨h.1, fun i r e => let ⟨q, h1, h2⟩ := h.2 i r e; ⟨q, h1, s _ _ h2⟩⟩
theorem Mvs.append {H : Hp} {xs ys : List V} {ms ns : List EpM.Mv} (h : Mvs H xs ms) (k : Mvs H ys ns) : Mvs H (xs ++ ys) (ms ++ ns) := by
  refine ⟨by rw [List.length_append, List.length_append, h.1, k.1], fun i v e => ?_⟩
  by_cases z : i < ms.length
  · rw [List.getElem?_append_left z] at e
    obtain ⟨q, h1, h2⟩ := h.2 i v e
    exact ⟨q, by rw [List.getElem?_append_left (by rw [h.1]; exact z)]; exact h1, h2⟩
  · rw [List.getElem?_append_right (by omega)] at e
    obtain ⟨q, h1, h2⟩ := k.2 _ v e
    exact ⟨q, by rw [List.getElem?_append_right (by rw [h.1]; omega), h.1]; exact h1, h2⟩
end Ep
namespace Ep
open PySem PySem.Spec L2 EpR
open PyProof.Rows hiding St
section
variable {P : Program} {w : World} {K : PySem.W.Frag} {mg : Str → Option Value} {base : Heap} {a : Ad} {f : Addr} {fd : FuncData}
def WSome (a : Ad) (H0 H : Hp) (p : Addr) (g : Cg) (s : EpM.St) : Prop := ∃ dx sg od rl tl fl xs ys fs, WAt a H0 H p dx sg od rl tl fl g s xs ys fs
def spWinit (a : Ad) : Sp := fun vs H Q _ => ∃ (H0 : Hp) (p dx sg st : Addr) (g : Cg) (s : EpM.St), vs = [.ref p, .ref sg, .ref st] ∧ Same H0 H ∧ H0 p = none ∧ H p = some (.ins a.CW dx []) ∧ SetAt a H0 sg g ∧ StateAt H st s ∧ ∀ H', WSome a H0 H' p g s → Q .non H'
theorem sc_winit : FnScope ["self", "setting", "state", "readers", "takers", "freed"] ["self", "setting", "state"] (defScope (inClass (top 48) 0)) := ⟨rfl, rfl, rfl, by decide +kernel, rfl, by decide +kernel, by decide +kernel⟩
theorem ok_winit (T : TX w K mg a) (F : FunP K "__init__" "StillWorld.__init__" (inClass (top 48) 0) [] [] f fd) : FnOk P w K mg base CX0 1 f fd ["self", "setting", "state"] (spWinit a) := by
  refine F.ok sc_winit (fun vs H Q E h => ?_) (fun cdv A outer s H vs Q E hr h => ⟨_, PSs.nox ((pss_cons (ps_fld (pv 0) (pv 1) rfl) (pss_cons (ps_fld (pv 0) (pe_fld (pe_fld (pv 1) rfl) rfl) rfl) (pss_cons (ps_asg (pv 2) (pg_tup rfl (pgs_cons (pg_fld (pv 0)) (pgs_cons (pg_name (i := 3) sc_winit.nd rfl (by first | exact Or.inl rfl | exact Or.inr rfl)) (pgs_cons (pg_name (i := 4) sc_winit.nd rfl (by first | exact Or.inl rfl | exact Or.inr rfl)) (pgs_cons (pg_name (i := 5) sc_winit.nd rfl (by first | exact Or.inl rfl | exact Or.inr rfl)) pgs_nil)))))) (pss_cons (ps_fld (pv 0) (pe_callTy call_list_of (by rfl) T.n_list boot_list (pa_cons (pv 3) pa_nil)) rfl) (pss_cons (ps_fld (pv 0) (pe_callTy call_list_of (by rfl) T.n_list boot_list (pa_cons (pv 4) pa_nil)) rfl) (pss_cons (ps_fld (pv 0) (pe_callTy call_list_of (by rfl) T.n_list boot_list (pa_cons (pv 5) pa_nil)) rfl) (pss_one (ps_fld (pv 0) pe_non rfl))))))))), ?_⟩)
  · obtain ⟨H0, p, dx, sg, st, g, s, rfl, _⟩ := h
    rfl
  · obtain ⟨H0, p, dx, sg, st, g, z, rfl, s0, p0, hp, hS, hst, k⟩ := h
    obtain ⟨okg, dy, kp, hn, hs1, hs2, ⟨okb, dz, od, ol, hk1, hk2⟩⟩ := id hS
    obtain ⟨rt, tt, ft, xs, ys, fs, h1, h2, h3, h4, h5, h6, h7⟩ := hst
    refine ⟨_, rfl, _, rfl, p, _, dx, _, rfl, hp, T.clW, T.nWsetting, (by show 0 < 1000; decide), ?_⟩
    generalize h_H1 : upd H p _ = H1
    have b_H1 : SameB p H H1 := h_H1 ▸ sameB_upd
    have e_H1 := (congrFun h_H1.symm p).trans upd_same
    have z1 : Same H0 H1 := b_H1.same0 s0 p0
    have u1 : Tups H H1 := h_H1 ▸ Tups.upd hp (by intro _ q; cases q)
    refine ⟨_, rfl, sg, _, dy, _, _, rfl, z1 _ _ hs1, T.clT, T.nTkept, rfl, kp, _, dz, _, _, rfl, z1 _ _ hk1, T.clS, T.nSown, rfl, _, rfl, p, _, dx, _, rfl, e_H1, T.clW, T.nWown, (by show 1 < 1000; decide), ?_⟩
    generalize h_H2 : upd H1 p _ = H2
    have b_H2 : SameB p H1 H2 := h_H2 ▸ sameB_upd
    have e_H2 := (congrFun h_H2.symm p).trans upd_same
    have z2 : Same H0 H2 := b_H2.same0 z1 p0
    have u2 : Tups H1 H2 := h_H2 ▸ Tups.upd e_H1 (by intro _ q; cases q)
    refine ⟨_, rfl, st, _, rfl, sqT_of (u2 _ _ (u1 _ _ h1)), rfl, _, _, rfl, _, rfl, p, _, dx, _, rfl, e_H2, T.clW, T.nWspot, (by show 2 < 1000; decide), ?_⟩
    generalize h_H3 : upd H2 p _ = H3
    have b_H3 : SameB p H2 H3 := h_H3 ▸ sameB_upd
    have e_H3 := (congrFun h_H3.symm p).trans upd_same
    have z3 : Same H0 H3 := b_H3.same0 z2 p0
    have u3 : Tups H2 H3 := h_H3 ▸ Tups.upd e_H2 (by intro _ q; cases q)
    refine ⟨_, _, rfl, _, _, rfl, _, _, rfl, rfl, ?_⟩
    refine ⟨_, rfl, _, _, rfl, .inr (sqT_of (u3 _ _ (u2 _ _ (u1 _ _ h2)))), fun rl hrl => ?_⟩
    generalize h_H4 : upd H3 rl _ = H4
    have s_H4 : Same H3 H4 := h_H4 ▸ same_upd hrl
    have e_H4 := (congrFun h_H4.symm rl).trans upd_same
    refine ⟨_, rfl, p, _, dx, _, rfl, s_H4 _ _ e_H3, T.clW, T.nWreader_rows, (by show 3 < 1000; decide), ?_⟩
    generalize h_H5 : upd H4 p _ = H5
    have b_H5 : SameB p H4 H5 := h_H5 ▸ sameB_upd
    have e_H5 := (congrFun h_H5.symm p).trans upd_same
    have u5 : Tups H4 H5 := h_H5 ▸ Tups.upd (s_H4 _ _ e_H3) (by intro _ q; cases q)
    have u35 : Tups H H5 := fun q xs e => u5 _ _ (s_H4 _ _ (u3 _ _ (u2 _ _ (u1 _ _ e))))
    refine ⟨_, rfl, _, _, rfl, .inr (sqT_of (u35 _ _ h3)), fun tl htl => ?_⟩
    generalize h_H6 : upd H5 tl _ = H6
    have s_H6 : Same H5 H6 := h_H6 ▸ same_upd htl
    have e_H6 := (congrFun h_H6.symm tl).trans upd_same
    refine ⟨_, rfl, p, _, dx, _, rfl, s_H6 _ _ e_H5, T.clW, T.nWtaker_rows, (by show 4 < 1000; decide), ?_⟩
    generalize h_H7 : upd H6 p _ = H7
    have b_H7 : SameB p H6 H7 := h_H7 ▸ sameB_upd
    have e_H7 := (congrFun h_H7.symm p).trans upd_same
    have u7 : Tups H6 H7 := h_H7 ▸ Tups.upd (s_H6 _ _ e_H5) (by intro _ q; cases q)
    have u57 : Tups H H7 := fun q xs e => u7 _ _ (s_H6 _ _ (u35 _ _ e))
    refine ⟨_, rfl, _, _, rfl, .inr (sqT_of (u57 _ _ h4)), fun fl hfl => ?_⟩
    generalize h_H8 : upd H7 fl _ = H8
    have s_H8 : Same H7 H8 := h_H8 ▸ same_upd hfl
    have e_H8 := (congrFun h_H8.symm fl).trans upd_same
    refine ⟨_, rfl, p, _, dx, _, rfl, s_H8 _ _ e_H7, T.clW, T.nWfreed, (by show 5 < 1000; decide), ?_⟩
    generalize h_H9 : upd H8 p _ = H9
    have b_H9 : SameB p H8 H9 := h_H9 ▸ sameB_upd
    have e_H9 := (congrFun h_H9.symm p).trans upd_same
    have u9 : Tups H8 H9 := h_H9 ▸ Tups.upd (s_H8 _ _ e_H7) (by intro _ q; cases q)
    refine ⟨_, rfl, p, _, dx, _, rfl, e_H9, T.clW, T.nWbad, (by show 6 < 1000; decide), ?_⟩
    generalize h_H10 : upd H9 p _ = H10
    have b_H10 : SameB p H9 H10 := h_H10 ▸ sameB_upd
    have e_H10 := (congrFun h_H10.symm p).trans upd_same
    have u10 : Tups H9 H10 := h_H10 ▸ Tups.upd e_H9 (by intro _ q; cases q)
    have uA : Tups H H10 := fun q xs e => u10 _ _ (u9 _ _ (s_H8 _ _ (u57 _ _ e)))
    have nr : rl ≠ p := fun e => by rw [e, e_H3] at hrl; cases hrl
    have nt : tl ≠ p := fun e => by rw [e, e_H5] at htl; cases htl
    have nf : fl ≠ p := fun e => by rw [e, e_H7] at hfl; cases hfl
    have z5 : Same H0 H5 := b_H5.same0 (z3.trans s_H4) p0
    have z7 : Same H0 H7 := b_H7.same0 (z5.trans s_H6) p0
    have z10 : Same H0 H10 := b_H10.same0 (b_H9.same0 (z7.trans s_H8) p0) p0
    have r5 := b_H5 _ _ nr e_H4
    have r7 := b_H7 _ _ nr (s_H6 _ _ r5)
    have r10 := b_H10 _ _ nr (b_H9 _ _ nr (s_H8 _ _ r7))
    have t7 := b_H7 _ _ nt e_H6
    have t10 := b_H10 _ _ nt (b_H9 _ _ nt (s_H8 _ _ t7))
    have f10 := b_H10 _ _ nf (b_H9 _ _ nf e_H8)
    refine k _ ⟨dx, sg, od, rl, tl, fl, xs, ys, fs, z10, p0, z3.free hrl, z5.free htl, z7.free hfl, e_H10, r10, t10, f10, hS, hk2, h5.mono uA, h6.mono uA, h7, ne_of_none r5 htl, ne_of_none r7 hfl, ne_of_none t7 hfl⟩
def spWstate (a : Ad) : Sp := fun vs H Q _ => ∃ (H0 : Hp) (p : Addr) (g : Cg) (s : EpM.St), vs = [.ref p] ∧ WSome a H0 H p g s ∧ ∀ st H', Same H H' → StateAt H' st s → Q (.ref st) H'
theorem sc_wstate : FnScope ["self"] ["self"] (defScope (inClass (top 48) 1)) := ⟨rfl, rfl, rfl, by decide +kernel, rfl, by decide +kernel, by decide +kernel⟩
theorem ok_wstate (T : TX w K mg a) (F : FunP K "state" "StillWorld.state" (inClass (top 48) 1) [] [] f fd) : FnOk P w K mg base CX0 1 f fd ["self"] (spWstate a) := by
  refine F.ok sc_wstate (fun vs H Q E h => ?_) (fun cdv A outer s H vs Q E hr h => ⟨_, PSs.nox ((pss_cons (ps_if (pt_cmpR op_notN (pe_fld (pv 0) rfl) pe_non (nomark _)) (pss_one (ps_ret (pe_fld (pv 0) rfl))) pss_nil) (pss_one (ps_ret (pe_tup (pa_cons (pe_fld (pv 0) rfl) (pa_cons (pe_callTy call_tuple_of (by rfl) T.n_tuple boot_tuple (pa_cons (pe_fld (pv 0) rfl) pa_nil)) (pa_cons (pe_callTy call_tuple_of (by rfl) T.n_tuple boot_tuple (pa_cons (pe_fld (pv 0) rfl) pa_nil)) (pa_cons (pe_callTy call_tuple_of (by rfl) T.n_tuple boot_tuple (pa_cons (pe_fld (pv 0) rfl) pa_nil)) pa_nil))))))))), ?_⟩)
  · obtain ⟨H0, p, g, s, rfl, _⟩ := h
    rfl
  · obtain ⟨H0, p, g, z, rfl, ⟨dx, sg, od, rl, tl, fl, xs, ys, fs, W⟩, k⟩ := h
    refine ⟨_, rfl, p, _, dx, _, _, rfl, W.hp, T.clW, T.nWbad, rfl, rfl, _, rfl, iteN rfl ?_⟩
    refine ⟨_, rfl, p, _, dx, _, _, rfl, W.hp, T.clW, T.nWspot, rfl, ?_⟩
    refine ⟨_, rfl, p, _, dx, _, _, rfl, W.hp, T.clW, T.nWreader_rows, rfl, _, _, rfl, .inl ⟨sqL_of W.hr, fun rt hrt => ?_⟩⟩
    generalize h_H1 : upd H rt _ = H1
    have s_H1 : Same H H1 := h_H1 ▸ same_upd hrt
    have e_H1 := (congrFun h_H1.symm rt).trans upd_same
    have W1 := W.same s_H1
    refine ⟨_, rfl, p, _, dx, _, _, rfl, W1.hp, T.clW, T.nWtaker_rows, rfl, _, _, rfl, .inl ⟨sqL_of W1.ht, fun tt htt => ?_⟩⟩
    generalize h_H2 : upd H1 tt _ = H2
    have s_H2 : Same H1 H2 := h_H2 ▸ same_upd htt
    have e_H2 := (congrFun h_H2.symm tt).trans upd_same
    have W2 := W1.same s_H2
    refine ⟨_, rfl, p, _, dx, _, _, rfl, W2.hp, T.clW, T.nWfreed, rfl, _, _, rfl, .inl ⟨sqL_of W2.hf, fun ft hft => ?_⟩⟩
    generalize h_H3 : upd H2 ft _ = H3
    have s_H3 : Same H2 H3 := h_H3 ▸ same_upd hft
    have e_H3 := (congrFun h_H3.symm ft).trans upd_same
    refine ⟨(by show 4 ≤ sizeLine; decide), fun st hst => ?_⟩
    generalize h_H4 : upd H3 st _ = H4
    have s_H4 : Same H3 H4 := h_H4 ▸ same_upd hst
    have e_H4 := (congrFun h_H4.symm st).trans upd_same
    have sA := s_H1.trans (s_H2.trans (s_H3.trans s_H4))
    have W4 := W.same sA
    exact k _ _ sA ⟨rt, tt, ft, xs, ys, fs, e_H4, s_H4 _ _ (s_H3 _ _ (s_H2 _ _ e_H1)), s_H4 _ _ (s_H3 _ _ e_H2), s_H4 _ _ e_H3, W4.rr, W4.tt, W4.ff⟩
end
end Ep
namespace Ep
open PySem PySem.Spec L2 EpR
open PyProof.Rows hiding St
theorem catA {K : PySem.W.Frag} {H : Hp} {x y : Addr} {xs ys : List V} {Q : VK} (hx : SqT K H x xs) (hy : SqT K H y ys) (hl : xs.length + ys.length ≤ 1000) (k : ∀ z H', Same H H' → SqT K H' z (xs ++ ys) → Q (.ref z) H') : rCatA K (.ref x) (.ref y) H Q := by
  refine ⟨x, y, xs, ys, rfl, rfl, hx, hy, Nat.le_of_lt (small1000 hl), fun e => ?_, fun _ e => ?_, fun _ _ p hp => ?_⟩
  · subst e
    exact k _ _ (Same.refl _) hy
  · subst e
    exact k _ _ (Same.refl _) (by rw [List.append_nil]; exact hx)
  · exact k _ _ (same_upd hp) (sqT_of upd_same)
def dV (d : EpM.Dd) : V := .str (ddS d)
section
variable {P : Program} {w : World} {K : PySem.W.Frag} {mg : Str → Option Value} {base : Heap} {a : Ad} {f : Addr} {fd : FuncData}
theorem dget {H : Hp} {od : Addr} {b : Bk} (ho : H od = some (.dK b.kv)) (wd : Wd) : DGet H od (.str wd.s) (some (b.at wd)) := .inl ⟨_, .inr wd.s, .inl ho, rfl, (b.get wd).symm⟩
def spRdeeds (K : PySem.W.Frag) (a : Ad) : Sp := fun vs H Q _ => ∃ (H0 : Hp) (p q : Addr) (g : Cg) (s : EpM.St) (r : EpM.Rd), vs = [.ref p, .ref q] ∧ WSome a H0 H p g s ∧ RdAt H q r ∧ ∀ t H', Same H H' → SqT K H' t ((EpM.rDeeds g.cf r).map dV) → Q (.ref t) H'
theorem sc_reader_deeds : FnScope ["self", "reader", "mode", "count", "flag", "thing", "sleep", "still", "rest"] ["self", "reader"] (defScope (inClass (top 48) 3)) := ⟨rfl, rfl, rfl, by decide +kernel, rfl, by decide +kernel, by decide +kernel⟩
theorem ok_reader_deeds (T : TX w K mg a) (F : FunP K "reader_deeds" "StillWorld.reader_deeds" (inClass (top 48) 3) [] [] f fd) : FnOk P w K mg base CX0 1 f fd ["self", "reader"] (spRdeeds K a) := by
  refine F.ok sc_reader_deeds (fun vs H Q E h => ?_) (fun cdv A outer s H vs Q E hr h => ⟨_, PSs.nox ((pss_cons (ps_asg (pv 1) (pg_tup rfl (pgs_cons (pg_name (i := 2) sc_reader_deeds.nd rfl (by first | exact Or.inl rfl | exact Or.inr rfl)) (pgs_cons (pg_name (i := 3) sc_reader_deeds.nd rfl (by first | exact Or.inl rfl | exact Or.inr rfl)) (pgs_cons (pg_name (i := 4) sc_reader_deeds.nd rfl (by first | exact Or.inl rfl | exact Or.inr rfl)) (pgs_cons (pg_name (i := 5) sc_reader_deeds.nd rfl (by first | exact Or.inl rfl | exact Or.inr rfl)) pgs_nil)))))) (pss_cons (ps_set (i := 6) sc_reader_deeds.nd rfl (by first | exact Or.inl rfl | exact Or.inr rfl) (pe_dget (hu_of hr) (pe_fld (pv 0) rfl) pe_str (by intro _ _; rfl))) (pss_cons (ps_if (pt_cmpR op_eq (pv 2) pe_str (nomark _)) (C8.pss_cut (ps_set (i := 7) sc_reader_deeds.nd rfl (by first | exact Or.inl rfl | exact Or.inr rfl) (pe_ifExp (pw_and (pt_cmpR op_eq (pe_dget (hu_of hr) (pe_fld (pv 0) rfl) pe_str (by intro _ _; rfl)) pe_str (nomark _)) (pw_and1 (pt_not (pt_val (pv 4))))).pt (pe_tup (pa_cons pe_str pa_nil)) (pe_tup pa_nil))) (C8.pss_cut (ps_set (i := 8) sc_reader_deeds.nd rfl (by first | exact Or.inl rfl | exact Or.inr rfl) (pe_ifExp (pt_val (pv 4)) (pe_tup (pa_cons pe_str pa_nil)) (pe_ifExp (pt_cmpR op_eq (pv 6) pe_str (nomark _)) (pe_tup (pa_cons pe_str pa_nil)) (pe_tup pa_nil)))) (pss_one (ps_ret (pe_op op_catA (pe_op op_catA (pe_tup (pa_cons pe_str (pa_cons pe_str pa_nil))) (pv 7)) (pv 8)))))) pss_nil) (pss_cons (ps_if (pt_val (pv 4)) (pss_one (ps_ret (pe_ifExp (pt_cmpR op_eq (pv 6) pe_str (nomark _)) (pe_tup (pa_cons pe_str (pa_cons pe_str pa_nil))) (pe_tup (pa_cons pe_str pa_nil))))) pss_nil) (pss_one (ps_ret (pe_ifExp (pt_cmpR op_eq (pv 6) pe_str (nomark _)) (pe_tup (pa_cons pe_str (pa_cons pe_str pa_nil))) (pe_tup (pa_cons pe_str (pa_cons pe_str (pa_cons pe_str pa_nil)))))))))))), ?_⟩)
  · obtain ⟨H0, p, q, g, s, r, rfl, _⟩ := h
    rfl
  · obtain ⟨H0, p, q, g, z, r, rfl, ⟨dx, sg, od, rl, tl, fl, xs, ys, fs, W⟩, hq, k⟩ := h
    have ho : H od = some (.dK g.b.kv) := W.s0 _ _ W.ho
    obtain ⟨cnt, flag, th⟩ := r
    refine ⟨_, rfl, q, _, rfl, sqT_of hq, rfl, _, _, rfl, _, _, rfl, _, _, rfl, _, _, rfl, rfl, _, rfl, p, _, dx, _, _, rfl, W.hp, T.clW, T.nWown, rfl, od, g.b.at .sleep, rfl, dget ho .sleep, ?_⟩
    refine ⟨_, rfl, rfl, _, rfl, ?_⟩
    cases th with
    | some t =>
      refine iteDT (by show V.str "inside" = V.str "inside"; rfl) ?_
      refine ⟨fun σ' H' => ∃ ts, σ' = [some (.ref p), some (.ref q), some (.str "inside"), some (.int cnt), some (.bl flag), some (.int t), some (g.b.at .sleep), some (.ref ts), none] ∧ Same H H' ∧ H' ts = some (.tup ((if g.b.st && !flag then [EpM.Dd.still] else []).map dV)), ?_, ?_⟩
      · refine ⟨_, rfl, p, _, dx, _, _, rfl, W.hp, T.clW, T.nWown, rfl, od, g.b.at .still, rfl, dget ho .still, rfl, _, rfl, ?_⟩
        cases hst : g.b.st with
        | false => exact iteD (by show ¬ V.str (stS g.b.st) = _; rw [hst]; decide +kernel) (iteF ⟨by show 0 ≤ sizeLine; decide, fun ts hts => ⟨ts, rfl, same_upd hts, upd_same⟩⟩)
        | true =>
          refine iteDT (by show V.str (stS g.b.st) = _; rw [hst]; decide +kernel) ⟨_, rfl, _, rfl, ?_⟩
          cases flag with
          | true => exact iteF ⟨by show 0 ≤ sizeLine; decide, fun ts hts => ⟨ts, rfl, same_upd hts, upd_same⟩⟩
          | false => exact iteT ⟨by show 1 ≤ sizeLine; decide, fun ts hts => ⟨ts, rfl, same_upd hts, upd_same⟩⟩
      · rintro σ1 H1 ⟨ts, rfl, s1, hts⟩
        refine ⟨fun σ' H' => ∃ tr, σ' = [some (.ref p), some (.ref q), some (.str "inside"), some (.int cnt), some (.bl flag), some (.int t), some (g.b.at .sleep), some (.ref ts), some (.ref tr)] ∧ Same H1 H' ∧ H' tr = some (.tup ((if flag then [EpM.Dd.wake] else []).map dV)), ?_, ?_⟩
        · refine ⟨_, rfl, _, rfl, ?_⟩
          cases flag with
          | true => exact iteT ⟨by show 1 ≤ sizeLine; decide, fun tr htr => ⟨tr, rfl, same_upd htr, upd_same⟩⟩
          | false =>
            refine iteF ⟨_, rfl, rfl, _, rfl, iteD ?_ ⟨by show 0 ≤ sizeLine; decide, fun tr htr => ⟨tr, rfl, same_upd htr, upd_same⟩⟩⟩
            show ¬ V.str (slS g.b.sl) = _
            generalize g.b.sl = z
            cases z <;> decide +kernel
        · rintro σ2 H2 ⟨tr, rfl, s2, htr⟩
          refine ⟨by show 2 ≤ sizeLine; decide, fun t1 ht1 => ?_⟩
          generalize h_H3 : upd H2 t1 _ = H3
          have s_H3 : Same H2 H3 := h_H3 ▸ same_upd ht1
          have e_H3 := (congrFun h_H3.symm t1).trans upd_same
          refine ⟨_, rfl, catA (sqT_of e_H3) (sqT_of (s_H3 _ _ (s2 _ _ hts))) (by cases g.b.st <;> cases flag <;> decide) fun t2 H4 s4 ht2 => ?_⟩
          refine ⟨_, rfl, catA ht2 (sqT_of (s4 _ _ (s_H3 _ _ htr))) (by cases g.b.st <;> cases flag <;> decide) fun t3 H5 s5 ht3 => ?_⟩
          refine k _ _ (s1.trans (s2.trans (s_H3.trans (s4.trans s5)))) ?_
          have e : (EpM.rDeeds g.cf ⟨cnt, flag, some t⟩).map dV = [V.str "use", V.str "end"] ++ (if g.b.st && !flag then [EpM.Dd.still] else []).map dV ++ (if flag then [EpM.Dd.wake] else []).map dV := by
            show List.map dV ([.use, .fin] ++ (if g.b.st && !flag then [EpM.Dd.still] else []) ++ (if flag then [EpM.Dd.wake] else [])) = _
            rw [List.map_append, List.map_append]
            rfl
          rw [e]
          exact ht3
    | none =>
      refine iteD (by show ¬ V.str "out" = V.str "inside"; decide +kernel) ?_
      refine ⟨_, rfl, _, rfl, ?_⟩
      cases flag with
      | true =>
        refine iteT ⟨_, rfl, rfl, _, rfl, iteD ?_ ⟨by show 1 ≤ sizeLine; decide, fun t ht => k _ _ (same_upd ht) (sqT_of upd_same)⟩⟩
        show ¬ V.str (slS g.b.sl) = _
        generalize g.b.sl = z
        cases z <;> decide +kernel
      | false =>
        refine iteF ⟨_, rfl, rfl, _, rfl, ?_⟩
        have kk : ∀ t H', Same H H' → SqT K H' t ((if g.b.sl then [EpM.Dd.get, .still, .sleep] else [EpM.Dd.get, .still]).map dV) → Q (V.ref t) H' := k
        cases hsl : g.b.sl with
        | true =>
          rw [hsl] at kk
          exact iteD (by show ¬ V.str (slS g.b.sl) = _; rw [hsl]; decide +kernel) ⟨by show 3 ≤ sizeLine; decide, fun t ht => kk _ _ (same_upd ht) (sqT_of upd_same)⟩
        | false =>
          rw [hsl] at kk
          exact iteDT (by show V.str (slS g.b.sl) = _; rw [hsl]; decide +kernel) ⟨by show 2 ≤ sizeLine; decide, fun t ht => kk _ _ (same_upd ht) (sqT_of upd_same)⟩
end
end Ep
namespace Ep
open PySem PySem.Spec L2 EpR
open PyProof.Rows hiding St
theorem for_enum {K : PySem.W.Frag} {a : Addr} {xs : List V} {g : TG} {tb : TS} {D : Ends} {σ : L2.St} {H : Hp} (Pv : Nat → L2.St → Hp → Prop) (h0 : Pv 0 σ H) (hl : ∀ i σ H, i ≤ xs.length → Pv i σ H → SqL K H a xs)
    (hs : ∀ i x σ H T, xs[i]? = some x → Pv i σ H → H T = none → g (.ref T) σ (upd H T (.tup [.int (i : Nat), x])) fun σ2 H2 => tb { D with nx := Pv (i + 1), ct := Pv (i + 1), bk := D.nx } σ2 H2) (hd : ∀ σ H, Pv xs.length σ H → D.nx σ H) :
    ∃ W : Nat → Nat → L2.St → Hp → Prop, (∃ m, W 0 m σ H) ∧ ∀ i m σ H, W i m σ H →
      ((Ite K a).stop i H ∧ D.nx σ H) ∨ ((Ite K a).go i H ∧ ∃ N : L2.St → Hp → Prop, (∀ σ' H', N σ' H' → ∃ m', m' < m ∧ W (i + 1) m' σ' H') ∧ ∀ x H', (Ite K a).yld i H x H' → g x σ H' fun σ2 H2 => tb { D with nx := N, ct := N, bk := D.nx } σ2 H2) := by
  refine ⟨fun i m σ H => m = xs.length - i ∧ i ≤ xs.length ∧ Pv i σ H, ⟨xs.length, by simp, Nat.zero_le _, h0⟩, ?_⟩
  rintro i m σ H ⟨rfl, hi, p⟩
  have q := hl i σ H hi p
  by_cases hlt : i < xs.length
  · refine .inr ⟨⟨xs, xs[i], q, by simp [hlt]⟩, Pv (i + 1), fun σ' H' p' => ⟨xs.length - (i + 1), by omega, rfl, hlt, p'⟩, fun v H' y => ?_⟩
    obtain ⟨T, x, rfl, hT, rfl, y⟩ := y
    exact hs i x σ _ T (y xs q) p hT
  · have e : i = xs.length := by omega
    subst e
    exact .inl ⟨⟨xs, q, Nat.le_refl _⟩, hd σ H p⟩
theorem Mvs.one {H : Hp} {q : Addr} {v : EpM.Mv} (h : MvAt H q v) : Mvs H [.ref q] [v] := ⟨rfl, fun i u e => match i, e with
  | 0, e => ⟨q, rfl, by cases e; exact h⟩⟩
theorem lc_deeds {K : PySem.W.Frag} {t D : Addr} {ds : List EpM.Dd} {s0 s1 s3 s4 s5 : Option V} {H1 : Hp} {tk : Bool} {n : Nat} {Qd : Hp → Prop} (hT : SqT K H1 t (ds.map dV)) (hD : H1 D = none) (hl : ds.length ≤ 100)
    (hd : ∀ acc H', Same H1 H' → H' D = some (.lst acc) → Mvs H' acc (ds.map fun d => ⟨tk, n, d⟩) → Qd H') :
    ∃ W : Nat → Nat → Hp → Prop, (∃ m, W 0 m (upd H1 D (.lst []))) ∧ ∀ i m H, W i m H →
      ((Itt K t).stop i H ∧ Qd H) ∨ ((Itt K t).go i H ∧ ∃ Nx : Hp → Prop, (∀ H', Nx H' → ∃ m', m' < m ∧ W (i + 1) m' H') ∧ ∀ x H', (Itt K t).yld i H x H' → gName 4 x (wipe [s0, s1, some (.int (n : Nat)), s3, s4, s5] [4]) H' fun σ2 H2 => wipe σ2 [4] = wipe [s0, s1, some (.int (n : Nat)), s3, s4, s5] [4] ∧ tYes σ2 H2 fun b H3 =>
        if b = true then (tTup (tCons (tC (.str (kdS tk))) (tCons (tVar 2) (tCons (tVar 4) tNil)))) σ2 H3 fun y H4 => ∃ acc, H4 D = some (.lst acc) ∧ acc.length < sizeLine ∧ Nx (upd H4 D (.lst (acc ++ [y]))) else Nx H3) := by
  refine lc_tup (xs := ds.map dV) (fun i H' => Same H1 H' ∧ ∃ acc, H' D = some (.lst acc) ∧ Mvs H' acc ((ds.take i).map fun d => ⟨tk, n, d⟩)) ⟨same_upd hD, [], upd_same, rfl, fun i v e => nomatch e⟩ (fun i H' _ hP => sqT_same hP.1 hT) (fun i x H' hx hP => ?_) (fun H' hP => ?_)
  · obtain ⟨s2, acc, ha, hm⟩ := hP
    obtain ⟨d, hd', rfl⟩ : ∃ d, ds[i]? = some d ∧ x = dV d := by
      rw [List.getElem?_map] at hx
      cases e : ds[i]? with
      | none => rw [e] at hx; cases hx
      | some d => rw [e] at hx; exact ⟨d, rfl, (Option.some.inj hx).symm⟩
    refine ⟨rfl, ?_⟩
    unfold tYes
    simp only [if_true]
    refine ⟨_, rfl, _, rfl, by show 3 ≤ sizeLine; decide, fun q hq => ?_⟩
    generalize h_H2 : upd H' q _ = H2
    have s_H2 : Same H' H2 := h_H2 ▸ same_upd hq
    have e_H2 := (congrFun h_H2.symm q).trans upd_same
    have n1 : D ≠ q := ne_of_none ha hq
    refine ⟨acc, s_H2 _ _ ha, ?_, fun p u hp => ?_, acc ++ [.ref q], upd_same, ?_⟩
    · rw [hm.1, List.length_map, List.length_take]
      exact small1000 (by omega)
    · have n2 : p ≠ D := fun z => by rw [z, hD] at hp; cases hp
      rw [upd_ne n2]
      exact s_H2 _ _ (s2 _ _ hp)
    · have m1 : Tups H2 (upd H2 D (.lst (acc ++ [.ref q]))) := Tups.upd (s_H2 _ _ ha) (by intro _ z; cases z)
      rw [List.take_add_one, hd', List.map_append]
      exact ((hm.mono (.of s_H2)).mono m1).append (Mvs.one (m1 _ _ e_H2))
  · obtain ⟨s2, acc, ha, hm⟩ := hP
    rw [List.length_map, List.take_length] at hm
    exact hd acc H' s2 ha hm
theorem rMoves_app (c : EpM.Cf) : ∀ (rs : List EpM.Rd) (k : Nat) (r : EpM.Rd), EpM.rMoves c k (rs ++ [r]) = EpM.rMoves c k rs ++ (EpM.rDeeds c r).map fun d => ⟨false, k + rs.length, d⟩
  | [], k, r => by simp [EpM.rMoves]
  | x :: rs, k, r => by
    have := rMoves_app c rs (k + 1) r
    simp only [List.cons_append, EpM.rMoves, this, List.length_cons, List.append_assoc]
    rw [show k + 1 + rs.length = k + (rs.length + 1) by omega]
theorem tMoves_app (c : EpM.Cf) (pl : Int) : ∀ (ts : List EpM.Tk) (k : Nat) (t : EpM.Tk), EpM.tMoves c pl k (ts ++ [t]) = EpM.tMoves c pl k ts ++ (EpM.tDeeds c pl t.md).map fun d => ⟨true, k + ts.length, d⟩
  | [], k, r => by simp [EpM.tMoves]
  | x :: rs, k, r => by
    have := tMoves_app c pl rs (k + 1) r
    simp only [List.cons_append, EpM.tMoves, this, List.length_cons, List.append_assoc]
    rw [show k + 1 + rs.length = k + (rs.length + 1) by omega]
theorem rDeeds_len (c : EpM.Cf) (r : EpM.Rd) : (EpM.rDeeds c r).length ≤ 4 := by
  unfold EpM.rDeeds
  cases r.th <;> cases r.flag <;> cases c.slp <;> cases c.any <;> simp
theorem tDeeds_len (c : EpM.Cf) (pl : Int) (m : EpM.Md) : (EpM.tDeeds c pl m).length ≤ 1 := by
  unfold EpM.tDeeds
  cases m <;> cases c.behind <;> by_cases h : pl < c.things <;> simp [h]
theorem rMoves_len (c : EpM.Cf) : ∀ (rs : List EpM.Rd) (k : Nat), (EpM.rMoves c k rs).length ≤ 4 * rs.length
  | [], _ => by simp [EpM.rMoves]
  | r :: rs, k => by
    have h1 := rMoves_len c rs (k + 1)
    have h2 := rDeeds_len c r
    simp only [EpM.rMoves, List.length_append, List.length_map, List.length_cons]
    omega
theorem tMoves_len (c : EpM.Cf) (pl : Int) : ∀ (ts : List EpM.Tk) (k : Nat), (EpM.tMoves c pl k ts).length ≤ ts.length
  | [], _ => by simp [EpM.tMoves]
  | t :: ts, k => by
    have h1 := tMoves_len c pl ts (k + 1)
    have h2 := tDeeds_len c pl t.md
    simp only [EpM.tMoves, List.length_append, List.length_map, List.length_cons]
    omega
end Ep
namespace Ep
open PySem PySem.Spec L2 EpR
open PyProof.Rows hiding St
section
variable {P : Program} {w : World} {K : PySem.W.Frag} {mg : Str → Option Value} {base : Heap} {a : Ad} {f : Addr} {fd : FuncData}
def spReaders (a : Ad) : Sp := fun vs H Q _ => ∃ (s : Addr) (g : Cg), vs = [.ref s] ∧ SetAt a H s g ∧ Q (.int g.r) H
theorem sc_readers : FnScope ["self"] ["self"] (defScope (inClass (top 44) 2)) := ⟨rfl, rfl, rfl, by decide +kernel, rfl, by decide +kernel, by decide +kernel⟩
theorem ok_readers (T : TX w K mg a) (F : FunP K "readers" "Setting.readers" (inClass (top 44) 2) [] [] f fd) : FnOk P w K mg base CX0 1 f fd ["self"] (spReaders a) := by
  refine F.ok sc_readers (fun vs H Q E h => ?_) (fun cdv A outer s H vs Q E hr h => ⟨_, PSs.nox ((pss_one (ps_ret (pe_ix ix_tup (pe_fld (pv 0) rfl) pe_int (by intro _ _; rfl))))), ?_⟩)
  · obtain ⟨s, g, rfl, _⟩ := h
    rfl
  · obtain ⟨s, g, rfl, ⟨okg, dx, kp, hn, h1, h2, h3⟩, k⟩ := h
    exact ⟨_, rfl, s, _, dx, _, _, rfl, h1, T.clT, T.nThands, rfl, hn, _, 0, _, rfl, rfl, sqT_of h2, rfl, k⟩
def spTakers (a : Ad) : Sp := fun vs H Q _ => ∃ (s : Addr) (g : Cg), vs = [.ref s] ∧ SetAt a H s g ∧ Q (.int g.t) H
theorem sc_takers : FnScope ["self"] ["self"] (defScope (inClass (top 44) 3)) := ⟨rfl, rfl, rfl, by decide +kernel, rfl, by decide +kernel, by decide +kernel⟩
theorem ok_takers (T : TX w K mg a) (F : FunP K "takers" "Setting.takers" (inClass (top 44) 3) [] [] f fd) : FnOk P w K mg base CX0 1 f fd ["self"] (spTakers a) := by
  refine F.ok sc_takers (fun vs H Q E h => ?_) (fun cdv A outer s H vs Q E hr h => ⟨_, PSs.nox ((pss_one (ps_ret (pe_ix ix_tup (pe_fld (pv 0) rfl) pe_int (by intro _ _; rfl))))), ?_⟩)
  · obtain ⟨s, g, rfl, _⟩ := h
    rfl
  · obtain ⟨s, g, rfl, ⟨okg, dx, kp, hn, h1, h2, h3⟩, k⟩ := h
    exact ⟨_, rfl, s, _, dx, _, _, rfl, h1, T.clT, T.nThands, rfl, hn, _, 1, _, rfl, rfl, sqT_of h2, rfl, k⟩
def spThings (a : Ad) : Sp := fun vs H Q _ => ∃ (s : Addr) (g : Cg), vs = [.ref s] ∧ SetAt a H s g ∧ Q (.int g.th) H
theorem sc_things : FnScope ["self"] ["self"] (defScope (inClass (top 44) 5)) := ⟨rfl, rfl, rfl, by decide +kernel, rfl, by decide +kernel, by decide +kernel⟩
theorem ok_things (T : TX w K mg a) (F : FunP K "things" "Setting.things" (inClass (top 44) 5) [] [] f fd) : FnOk P w K mg base CX0 1 f fd ["self"] (spThings a) := by
  refine F.ok sc_things (fun vs H Q E h => ?_) (fun cdv A outer s H vs Q E hr h => ⟨_, PSs.nox ((pss_one (ps_ret (pe_ix ix_tup (pe_fld (pv 0) rfl) pe_int (by intro _ _; rfl))))), ?_⟩)
  · obtain ⟨s, g, rfl, _⟩ := h
    rfl
  · obtain ⟨s, g, rfl, ⟨okg, dx, kp, hn, h1, h2, h3⟩, k⟩ := h
    exact ⟨_, rfl, s, _, dx, _, _, rfl, h1, T.clT, T.nThands, rfl, hn, _, 3, _, rfl, rfl, sqT_of h2, rfl, k⟩
def kv3 (v1 v2 v3 : V) : List (Key × V) := [(.inr "noting", v1), (.inr "waiting", v2), (.inr "passed", v3)]
theorem merge_kv3 (v1 v2 v3 : V) : mergeK [] (kv3 v1 v2 v3) = kv3 v1 v2 v3 := by
  have h1 : valV [((Sum.inr ("noting" : Str) : Key), v1)] (Sum.inr ("waiting" : Str)) = none := (valS_ne (by decide +kernel)).trans rfl
  have h2 : valV [((Sum.inr ("noting" : Str) : Key), v1), (Sum.inr ("waiting" : Str), v2)] (Sum.inr ("passed" : Str)) = none := (valS_ne (by decide +kernel)).trans ((valS_ne (by decide +kernel)).trans rfl)
  show putK (putK (putK [] (Sum.inr ("noting" : Str) : Key) v1) (Sum.inr ("waiting" : Str)) v2) (Sum.inr ("passed" : Str)) v3 = _
  rw [show putK [] (Sum.inr ("noting" : Str) : Key) v1 = [((Sum.inr ("noting" : Str) : Key), v1)] from putK_new _ rfl,
    show putK [((Sum.inr ("noting" : Str) : Key), v1)] (Sum.inr ("waiting" : Str)) v2 = [((Sum.inr ("noting" : Str) : Key), v1), (Sum.inr ("waiting" : Str), v2)] from putK_new _ h1, putK_new _ h2]
  rfl
def spTdeeds (K : PySem.W.Frag) (a : Ad) : Sp := fun vs H Q _ => ∃ (H0 : Hp) (p q : Addr) (g : Cg) (s : EpM.St) (t : EpM.Tk), vs = [.ref p, .ref q] ∧ WSome a H0 H p g s ∧ TkAt H q t ∧ ∀ u H', Same H H' → SqT K H' u ((EpM.tDeeds g.cf s.place t.md).map dV) → Q (.ref u) H'
theorem sc_taker_deeds : FnScope ["self", "taker", "mode", "take"] ["self", "taker"] (defScope (inClass (top 48) 4)) := ⟨rfl, rfl, rfl, by decide +kernel, rfl, by decide +kernel, by decide +kernel⟩
theorem ok_taker_deeds (T : TX w K mg a) (p_things : Prp P w K mg base 1 a.CT "things" (spThings a)) (F : FunP K "taker_deeds" "StillWorld.taker_deeds" (inClass (top 48) 4) [] [] f fd) : FnOk P w K mg base CX0 3 f fd ["self", "taker"] (spTdeeds K a) := by
  refine F.ok sc_taker_deeds (fun vs H Q E h => ?_) (fun cdv A outer s H vs Q E hr h => ⟨_, PSs.nox ((pss_cons (ps_set (i := 2) sc_taker_deeds.nd rfl (by first | exact Or.inl rfl | exact Or.inr rfl) (pe_ix ix_tup (pv 1) pe_int (by intro _ _; rfl))) (C8.pss_cut (ps_set (i := 3) sc_taker_deeds.nd rfl (by first | exact Or.inl rfl | exact Or.inr rfl) (pe_ifExp (pt_cmpR op_lt (pe_fld (pv 0) rfl) (pe_p p_things hr (by decide) (pe_fld (pv 0) rfl)) (nomark _)) (pe_tup (pa_cons pe_str pa_nil)) (pe_tup pa_nil))) (pss_cons (ps_if (pt_cmpR op_eq (pv 2) pe_str (nomark _)) (pss_one (ps_ret (pe_ifExp (pt_cmpR op_eq (pe_dget (hu_of hr) (pe_fld (pv 0) rfl) pe_str (by intro _ _; rfl)) pe_str (nomark _)) (pv 3) (pe_tup (pa_cons pe_str pa_nil))))) pss_nil) (pss_cons (ps_if (pt_cmpR op_eq (pv 2) pe_str (nomark _)) (pss_one (ps_ret (pv 3))) pss_nil) (pss_one (ps_ret (pe_dget (hu_of hr) (pe_disp (pps_cons pe_str (pe_tup (pa_cons pe_str pa_nil)) (pps_cons pe_str (pe_tup (pa_cons pe_str pa_nil)) (pps_cons pe_str (pe_tup (pa_cons pe_str pa_nil)) pps_nil))) rfl rfl (by simp) (by decide)) (pv 2) (by intro _ _; rfl))))))))), ?_⟩)
  · obtain ⟨H0, p, q, g, s, r, rfl, _⟩ := h
    rfl
  · obtain ⟨H0, p, q, g, z, t, rfl, ⟨dx, sg, od, rl, tl, fl, xs, ys, fs, W⟩, ⟨nq, hq, hn⟩, k⟩ := h
    have ho : H od = some (.dK g.b.kv) := W.s0 _ _ W.ho
    have hS : SetAt a H sg g := W.hs.same W.s0
    obtain ⟨okg, dy, kp, hnd, hs1, hs2, _⟩ := id hS
    obtain ⟨md, pos, nt, out⟩ := t
    refine ⟨_, rfl, q, _, 0, _, rfl, rfl, sqT_of hq, rfl, ?_⟩
    refine ⟨fun σ' H' => ∃ tk, σ' = [some (.ref p), some (.ref q), some (.str (mdS md)), some (.ref tk)] ∧ Same H H' ∧ H' tk = some (.tup ((if z.place < g.th then [EpM.Dd.take] else []).map dV)), ?_, ?_⟩
    · refine ⟨_, rfl, p, _, dx, _, _, rfl, W.hp, T.clW, T.nWspot, rfl, _, rfl, p, _, dx, _, _, rfl, W.hp, T.clW, T.nWsetting, rfl, sg, dy, _, rfl, hs1, sg, g, rfl, hS, _, _, rfl, rfl, _, rfl, ?_⟩
      refine ite2D (fun e => ?_) (fun e => ?_)
      · exact ⟨by show 1 ≤ sizeLine; decide, fun tk htk => ⟨tk, rfl, same_upd htk, by rw [upd_same, if_pos e]; rfl⟩⟩
      · exact ⟨by show 0 ≤ sizeLine; decide, fun tk htk => ⟨tk, rfl, same_upd htk, by rw [upd_same, if_neg e]; rfl⟩⟩
    · rintro σ1 H1 ⟨tk, rfl, s1, htk⟩
      have dict : ∀ (Q : VK), (∀ q1 q2 q3 dd H', Same H1 H' → H' q1 = some (.tup [dV .note]) → H' q2 = some (.tup [dV .look]) → H' q3 = some (.tup [dV .free]) → H' dd = some (.dK (kv3 (.ref q1) (.ref q2) (.ref q3))) → Q (.ref dd) H') →
          tDisp [(tC (.str "noting"), tTup (tCons (tC (.str "note")) tNil)), (tC (.str "waiting"), tTup (tCons (tC (.str "look")) tNil)), (tC (.str "passed"), tTup (tCons (tC (.str "free")) tNil))] [some (.ref p), some (.ref q), some (.str (mdS md)), some (.ref tk)] H1 Q := by
        intro Q hQ dd hdd
        generalize h_H2 : upd H1 dd _ = H2
        have s_H2 : Same H1 H2 := h_H2 ▸ same_upd hdd
        have e_H2 := (congrFun h_H2.symm dd).trans upd_same
        refine ⟨by show 1 ≤ sizeLine; decide, fun q1 h1 => ?_⟩
        generalize h_H3 : upd H2 q1 _ = H3
        have s_H3 : Same H2 H3 := h_H3 ▸ same_upd h1
        have e_H3 := (congrFun h_H3.symm q1).trans upd_same
        refine ⟨by show 1 ≤ sizeLine; decide, fun q2 h2 => ?_⟩
        generalize h_H4 : upd H3 q2 _ = H4
        have s_H4 : Same H3 H4 := h_H4 ▸ same_upd h2
        have e_H4 := (congrFun h_H4.symm q2).trans upd_same
        refine ⟨by show 1 ≤ sizeLine; decide, fun q3 h3 => ?_⟩
        generalize h_H5 : upd H4 q3 _ = H5
        have s_H5 : Same H4 H5 := h_H5 ▸ same_upd h3
        have e_H5 := (congrFun h_H5.symm q3).trans upd_same
        have hd5 : H5 dd = some (.dK []) := s_H5 _ _ (s_H4 _ _ (s_H3 _ _ e_H2))
        refine ⟨hd5, kv3 (.ref q1) (.ref q2) (.ref q3), rfl, by show 3 ≤ 15; decide, ?_⟩
        rw [merge_kv3]
        have u : Tups H5 (upd H5 dd (.dK (kv3 (.ref q1) (.ref q2) (.ref q3)))) := Tups.upd hd5 (by intro _ z; cases z)
        exact hQ q1 q2 q3 dd _ (same_upd' (s_H2.trans (s_H3.trans (s_H4.trans s_H5))) hdd) (u _ _ (s_H5 _ _ (s_H4 _ _ e_H3))) (u _ _ (s_H5 _ _ e_H4)) (u _ _ e_H5) upd_same
      cases md with
      | idle =>
        refine ⟨_, rfl, rfl, _, rfl, iteDT rfl ?_⟩
        refine ⟨_, rfl, p, _, dx, _, _, rfl, s1 _ _ W.hp, T.clW, T.nWown, rfl, od, g.b.at .read, rfl, dget (s1 _ _ ho) .read, rfl, _, rfl, ?_⟩
        have kk : ∀ u H', Same H H' → SqT K H' u ((if g.b.rd then (if z.place < g.th then [EpM.Dd.take] else []) else [EpM.Dd.note]).map dV) → Q (V.ref u) H' := k
        cases hrd : g.b.rd with
        | true =>
          rw [hrd] at kk
          exact iteDT (by show V.str (rdS g.b.rd) = _; rw [hrd]; decide +kernel) ⟨_, rfl, kk _ _ s1 (sqT_of htk)⟩
        | false =>
          rw [hrd] at kk
          exact iteD (by show ¬ V.str (rdS g.b.rd) = _; rw [hrd]; decide +kernel) ⟨by show 1 ≤ sizeLine; decide, fun u hu => kk _ _ (s1.trans (same_upd hu)) (sqT_of upd_same)⟩
      | noted => exact ⟨_, rfl, rfl, _, rfl, iteD (by decide +kernel) ⟨_, rfl, rfl, _, rfl, iteDT rfl ⟨_, rfl, k _ _ s1 (sqT_of htk)⟩⟩⟩
      | noting =>
        refine ⟨_, rfl, rfl, _, rfl, iteD (by decide +kernel) ⟨_, rfl, rfl, _, rfl, iteD (by decide +kernel) ?_⟩⟩
        simp only [tNext, tRet, tDGet]
        refine dict _ fun q1 q2 q3 dd H2 s2 h1 h2 h3 hd => ?_
        exact ⟨_, rfl, dd, .ref q1, rfl, .inl ⟨_, .inr "noting", .inl hd, rfl, valS_eq.symm⟩, k _ _ (s1.trans s2) (sqT_of h1)⟩
      | waiting =>
        refine ⟨_, rfl, rfl, _, rfl, iteD (by decide +kernel) ⟨_, rfl, rfl, _, rfl, iteD (by decide +kernel) ?_⟩⟩
        simp only [tNext, tRet, tDGet]
        refine dict _ fun q1 q2 q3 dd H2 s2 h1 h2 h3 hd => ?_
        exact ⟨_, rfl, dd, .ref q2, rfl, .inl ⟨_, .inr "waiting", .inl hd, rfl, ((valS_ne (by decide +kernel)).trans valS_eq).symm⟩, k _ _ (s1.trans s2) (sqT_of h2)⟩
      | passed =>
        refine ⟨_, rfl, rfl, _, rfl, iteD (by decide +kernel) ⟨_, rfl, rfl, _, rfl, iteD (by decide +kernel) ?_⟩⟩
        simp only [tNext, tRet, tDGet]
        refine dict _ fun q1 q2 q3 dd H2 s2 h1 h2 h3 hd => ?_
        exact ⟨_, rfl, dd, .ref q3, rfl, .inl ⟨_, .inr "passed", .inl hd, rfl, ((valS_ne (by decide +kernel)).trans ((valS_ne (by decide +kernel)).trans valS_eq)).symm⟩, k _ _ (s1.trans s2) (sqT_of h3)⟩
def spMoves (a : Ad) : Sp := fun vs H Q _ => ∃ (H0 : Hp) (p : Addr) (g : Cg) (s : EpM.St), vs = [.ref p] ∧ WSome a H0 H p g s ∧ s.rs.length ≤ 100 ∧ s.ts.length ≤ 100 ∧ ∀ l ms H', Same H H' → H l = none → H' l = some (.lst ms) → Mvs H' ms (EpM.moves g.cf s) → Q (.ref l) H'
theorem sc_wmoves : FnScope ["self", "found", "k", "reader", "deed", "taker"] ["self"] (defScope (inClass (top 48) 5)) := ⟨rfl, rfl, rfl, by decide +kernel, rfl, by decide +kernel, by decide +kernel⟩
theorem ok_wmoves (T : TX w K mg a) (m_reader_deeds : Met P w K mg base 1 a.CW "reader_deeds" (spRdeeds K a)) (m_taker_deeds : Met P w K mg base 3 a.CW "taker_deeds" (spTdeeds K a)) (F : FunP K "moves" "StillWorld.moves" (inClass (top 48) 5) [] [] f fd) : FnOk P w K mg base CX0 4 f fd ["self"] (spMoves a) := by
  refine F.ok sc_wmoves (fun vs H Q E h => ?_) (fun cdv A outer s H vs Q E hr h => ⟨_, PSs.nox ((pss_cons (ps_set (i := 1) sc_wmoves.nd rfl (by first | exact Or.inl rfl | exact Or.inr rfl) (pe_lst pa_nil)) (pss_cons (ps_for PassesOwn.never rfl (pi_enum (by rfl) T.n_enumerate (pa_cons (pe_fld (pv 0) rfl) pa_nil)) (pg_tup rfl (pgs_cons (pg_name (i := 2) sc_wmoves.nd rfl (by first | exact Or.inl rfl | exact Or.inr rfl)) (pgs_cons (pg_name (i := 3) sc_wmoves.nd rfl (by first | exact Or.inl rfl | exact Or.inr rfl)) pgs_nil))) (pss_one (ps_expr (pe_bm PySem.F.plainAttrs_list PySem.F.slot_list_extend PySem.F.type_list_extend mt_extend (pv 1) (pa_cons (pe_lc (own := [("deed", 4)]) rfl sc_wmoves.nd (pi_tup (pe_m m_reader_deeds hr (by decide) (pv 0) (pa_cons (pv 3) pa_nil))) (blkOk_by (by first | rfl | kernel_rfl)) (fun _ _ _ _ _ => (pg_name (i := 4) sc_wmoves.nd rfl (by first | exact Or.inl rfl | exact Or.inr rfl))) (fun _ _ _ _ _ => pts_nil) (fun _ _ _ _ _ => (pe_tup (pa_cons pe_str (pa_cons (pv 2) (pa_cons (pv 4) pa_nil)))))) pa_nil))))) (pss_cons (ps_for PassesOwn.never rfl (pi_enum (by rfl) T.n_enumerate (pa_cons (pe_fld (pv 0) rfl) pa_nil)) (pg_tup rfl (pgs_cons (pg_name (i := 2) sc_wmoves.nd rfl (by first | exact Or.inl rfl | exact Or.inr rfl)) (pgs_cons (pg_name (i := 5) sc_wmoves.nd rfl (by first | exact Or.inl rfl | exact Or.inr rfl)) pgs_nil))) (pss_one (ps_expr (pe_bm PySem.F.plainAttrs_list PySem.F.slot_list_extend PySem.F.type_list_extend mt_extend (pv 1) (pa_cons (pe_lc (own := [("deed", 4)]) rfl sc_wmoves.nd (pi_tup (pe_m m_taker_deeds hr (by decide) (pv 0) (pa_cons (pv 5) pa_nil))) (blkOk_by (by first | rfl | kernel_rfl)) (fun _ _ _ _ _ => (pg_name (i := 4) sc_wmoves.nd rfl (by first | exact Or.inl rfl | exact Or.inr rfl))) (fun _ _ _ _ _ => pts_nil) (fun _ _ _ _ _ => (pe_tup (pa_cons pe_str (pa_cons (pv 2) (pa_cons (pv 4) pa_nil)))))) pa_nil))))) (pss_one (ps_ret (pv 1))))))), ?_⟩)
  · obtain ⟨H0, p, g, s, rfl, _⟩ := h
    rfl
  · obtain ⟨H0, p, g, z, rfl, ⟨dx, sg, od, rl, tl, fl, xs, ys, fs, W⟩, hz1, hz2, k⟩ := h
    refine ⟨by show 0 ≤ sizeLine; decide, fun l hl => ?_⟩
    generalize h_Hs : upd H l _ = Hs
    have s_Hs : Same H Hs := h_Hs ▸ same_upd hl
    have e_Hs := (congrFun h_Hs.symm l).trans upd_same
    have W0 := W.same s_Hs
    have snoc : ∀ {H1 H2 : Hp} {o : HO}, Same H H1 → Same H1 H2 → Same H (upd H2 l o) := fun s1 s2 => same_upd' (s1.trans s2) hl
    refine ⟨_, rfl, p, _, dx, _, _, rfl, W0.hp, T.clW, T.nWreader_rows, rfl, rl, xs, rfl, sqL_of W0.hr, for_enum (K := K) (a := rl) (xs := xs) (fun i σ H' => ∃ ms v2 v3 v4 v5, σ = [some (.ref p), some (.ref l), v2, v3, v4, v5] ∧ Same H H' ∧ H' l = some (.lst ms) ∧ Mvs H' ms (EpM.rMoves g.cf 0 (z.rs.take i))) ⟨[], _, _, _, _, rfl, s_Hs, e_Hs, rfl, fun i v e => nomatch e⟩ (fun i σ H' _ hP => by obtain ⟨_, _, _, _, _, _, s1, _⟩ := hP; exact sqL_of (W.same s1).hr) ?_ ?_⟩
    · rintro i x σ H' T1 hx ⟨ms, v2, v3, v4, v5, rfl, s1, hms, hM⟩ hT1
      generalize h_H1 : upd H' T1 _ = H1
      have s_H1 : Same H' H1 := h_H1 ▸ same_upd hT1
      have e_H1 := (congrFun h_H1.symm T1).trans upd_same
      have hi : i < z.rs.length := by
        have := (List.getElem?_eq_some_iff.mp hx).1
        rw [W.rr.1] at this
        exact this
      obtain ⟨q, hq1, hq2⟩ := W.rr.2 i z.rs[i] (by simp [hi])
      rw [hx] at hq1
      obtain rfl := Option.some.inj hq1
      have sA := s1.trans s_H1
      have W1 := W.same sA
      refine ⟨T1, _, rfl, sqT_of e_H1, rfl, _, _, rfl, _, _, rfl, rfl, _, rfl, .inl ⟨rfl, _, sqL_of (s_H1 _ _ hms)⟩, ?_⟩
      refine ⟨_, rfl, p, dx, _, rfl, W1.hp, rfl, _, rfl, H0, p, q, g, z, z.rs[i], rfl, ⟨_, _, _, _, _, _, _, _, _, W1⟩, hq2.mono (.of sA), fun t H2 s2 ht => ⟨t, rfl, ⟨_, ht⟩, fun D hD => ?_⟩⟩
      refine lc_deeds (tk := false) (n := i) ht hD (Nat.le_trans (rDeeds_len _ _) (by decide)) (fun acc H3 s3 hacc hmv => ?_)
      have hl3 : H3 l = some (.lst ms) := s3 _ _ (s2 _ _ (s_H1 _ _ hms))
      have hms3 := hM.mono (.of (s_H1.trans (s2.trans s3)))
      refine ⟨l, D, ms, acc, rfl, rfl, hl3, hacc, ?_, ?_⟩
      · rw [hM.1, hmv.1, List.length_map]
        have h1 := rMoves_len g.cf (z.rs.take i) 0
        have h2 := rDeeds_len g.cf z.rs[i]
        rw [List.length_take] at h1
        exact Nat.le_of_lt (small1000 (by omega))
      · have u : Tups H3 (upd H3 l (.lst (ms ++ acc))) := Tups.upd hl3 (by intro _ z; cases z)
        refine ⟨ms ++ acc, _, _, _, _, rfl, snoc sA (s2.trans s3), upd_same, ?_⟩
        have e : EpM.rMoves g.cf 0 (z.rs.take (i + 1)) = EpM.rMoves g.cf 0 (z.rs.take i) ++ (EpM.rDeeds g.cf z.rs[i]).map fun d => ⟨false, i, d⟩ := by
          rw [List.take_add_one, show z.rs[i]? = some z.rs[i] by simp [hi]]
          show EpM.rMoves g.cf 0 (z.rs.take i ++ [z.rs[i]]) = _
          rw [rMoves_app, List.length_take, Nat.zero_add, Nat.min_eq_left (Nat.le_of_lt hi)]
        rw [e]
        exact (hms3.append hmv).mono u
    · rintro σ H' ⟨ms, v2, v3, v4, v5, rfl, s1, hms, hM⟩
      rw [W.rr.1, List.take_length] at hM
      have W1 := W.same s1
      refine ⟨_, rfl, p, _, dx, _, _, rfl, W1.hp, T.clW, T.nWtaker_rows, rfl, tl, ys, rfl, sqL_of W1.ht, for_enum (K := K) (a := tl) (xs := ys) (fun i σ H' => ∃ ms v2 v3 v4 v5, σ = [some (.ref p), some (.ref l), v2, v3, v4, v5] ∧ Same H H' ∧ H' l = some (.lst ms) ∧ Mvs H' ms (EpM.rMoves g.cf 0 z.rs ++ EpM.tMoves g.cf z.place 0 (z.ts.take i))) ⟨ms, _, _, _, _, rfl, s1, hms, by rw [List.take_zero]; unfold EpM.tMoves; rw [List.append_nil]; exact hM⟩ (fun i σ H' _ hP => by obtain ⟨_, _, _, _, _, _, s1, _⟩ := hP; exact sqL_of (W.same s1).ht) ?_ ?_⟩
      · rintro i x σ H' T1 hx ⟨ms, v2, v3, v4, v5, rfl, s1, hms, hM⟩ hT1
        generalize h_H1 : upd H' T1 _ = H1
        have s_H1 : Same H' H1 := h_H1 ▸ same_upd hT1
        have e_H1 := (congrFun h_H1.symm T1).trans upd_same
        have hi : i < z.ts.length := by
          have := (List.getElem?_eq_some_iff.mp hx).1
          rw [W.tt.1] at this
          exact this
        obtain ⟨q, hq1, hq2⟩ := W.tt.2 i z.ts[i] (by simp [hi])
        rw [hx] at hq1
        obtain rfl := Option.some.inj hq1
        have sA := s1.trans s_H1
        have W1 := W.same sA
        refine ⟨T1, _, rfl, sqT_of e_H1, rfl, _, _, rfl, _, _, rfl, rfl, _, rfl, .inl ⟨rfl, _, sqL_of (s_H1 _ _ hms)⟩, ?_⟩
        refine ⟨_, rfl, p, dx, _, rfl, W1.hp, rfl, _, rfl, H0, p, q, g, z, z.ts[i], rfl, ⟨_, _, _, _, _, _, _, _, _, W1⟩, hq2.mono (.of sA), fun t H2 s2 ht => ⟨t, rfl, ⟨_, ht⟩, fun D hD => ?_⟩⟩
        refine lc_deeds (tk := true) (n := i) ht hD (Nat.le_trans (tDeeds_len _ _ _) (by decide)) (fun acc H3 s3 hacc hmv => ?_)
        have hl3 : H3 l = some (.lst ms) := s3 _ _ (s2 _ _ (s_H1 _ _ hms))
        have hms3 := hM.mono (.of (s_H1.trans (s2.trans s3)))
        refine ⟨l, D, ms, acc, rfl, rfl, hl3, hacc, ?_, ?_⟩
        · rw [hM.1, hmv.1, List.length_map, List.length_append]
          have h1 := tMoves_len g.cf z.place (z.ts.take i) 0
          have h3 := rMoves_len g.cf z.rs 0
          have h2 := tDeeds_len g.cf z.place z.ts[i].md
          rw [List.length_take] at h1
          exact Nat.le_of_lt (small1000 (by omega))
        · have u : Tups H3 (upd H3 l (.lst (ms ++ acc))) := Tups.upd hl3 (by intro _ z; cases z)
          refine ⟨ms ++ acc, _, _, _, _, rfl, snoc sA (s2.trans s3), upd_same, ?_⟩
          have e : EpM.tMoves g.cf z.place 0 (z.ts.take (i + 1)) = EpM.tMoves g.cf z.place 0 (z.ts.take i) ++ (EpM.tDeeds g.cf z.place z.ts[i].md).map fun d => ⟨true, i, d⟩ := by
            rw [List.take_add_one, show z.ts[i]? = some z.ts[i] by simp [hi]]
            show EpM.tMoves g.cf z.place 0 (z.ts.take i ++ [z.ts[i]]) = _
            rw [tMoves_app, List.length_take, Nat.zero_add, Nat.min_eq_left (Nat.le_of_lt hi)]
          rw [e, ← List.append_assoc]
          exact (hms3.append hmv).mono u
      · rintro σ H' ⟨ms, v2, v3, v4, v5, rfl, s1, hms, hM⟩
        rw [W.tt.1, List.take_length] at hM
        exact ⟨_, rfl, k l ms _ s1 hl hms hM⟩
end
end Ep
namespace Ep
open PySem PySem.Spec L2 EpR
open PyProof.Rows hiding St
theorem catT {K : PySem.W.Frag} {H : Hp} {x y : Addr} {xs ys : List V} {Q : VK} (hx : H x = some (.tup xs)) (hy : H y = some (.tup ys)) (hl : xs.length + ys.length ≤ 1000) (k : ∀ z H', Same H H' → H' z = some (.tup (xs ++ ys)) → Q (.ref z) H') : rCatA K (.ref x) (.ref y) H Q := by
  refine ⟨x, y, xs, ys, rfl, rfl, sqT_of hx, sqT_of hy, Nat.le_of_lt (small1000 hl), fun e => ?_, fun _ e => ?_, fun _ _ p hp => ?_⟩
  · subst e
    exact k _ _ (Same.refl _) hy
  · subst e
    exact k _ _ (Same.refl _) (by rw [List.append_nil]; exact hx)
  · exact k _ _ (same_upd hp) upd_same
theorem atI_nat {xs : List V} {i : Nat} {v : V} (h : xs[i]? = some v) : atI xs (i : Int) = some v := by
  have hl := (List.getElem?_eq_some_iff.mp h).1
  unfold atI ixN
  rw [if_pos (Int.natCast_nonneg i), if_pos (by omega)]
  exact h
theorem ixN_nat {n i : Nat} (h : i < n) : ixN n (i : Int) = some i := by
  unfold ixN
  rw [if_pos (Int.natCast_nonneg i), if_pos (by omega)]
  rfl
section
variable {P : Program} {w : World} {K : PySem.W.Frag} {mg : Str → Option Value} {base : Heap} {a : Ad} {f : Addr} {fd : FuncData}
def spNoted (a : Ad) : Sp := fun vs H Q _ => ∃ (H0 : Hp) (p nq : Addr) (g : Cg) (s : EpM.St) (t : EpM.Tk), vs = [.ref p, .int (t.pos : Nat), .ref nq] ∧ WSome a H0 H p g s ∧ H nq = some (.tup (t.nt.map V.int)) ∧ t.nt.length ≤ 100 ∧ t.pos < s.rs.length ∧
  ∀ u nq' H', Same H H' → H' u = some (.tup [.str (mdS (EpM.noteT g.cf s.rs t).md), .int ((EpM.noteT g.cf s.rs t).pos : Nat), .ref nq']) → H' nq' = some (.tup ((EpM.noteT g.cf s.rs t).nt.map V.int)) → Q (.ref u) H'
theorem sc_noted : FnScope ["self", "at", "noted"] ["self", "at", "noted"] (defScope (inClass (top 48) 8)) := ⟨rfl, rfl, rfl, by decide +kernel, rfl, by decide +kernel, by decide +kernel⟩
theorem ok_noted (T : TX w K mg a) (F : FunP K "noted" "StillWorld.noted" (inClass (top 48) 8) [] [] f fd) : FnOk P w K mg base CX0 1 f fd ["self", "at", "noted"] (spNoted a) := by
  refine F.ok sc_noted (fun vs H Q E h => ?_) (fun cdv A outer s H vs Q E hr h => ⟨_, PSs.nox ((pss_cons (ps_set (i := 2) sc_noted.nd rfl (by first | exact Or.inl rfl | exact Or.inr rfl) (pe_op op_catA (pv 2) (pe_tup (pa_cons (pe_ix ix_tup (pe_ix ix_list (pe_fld (pv 0) rfl) (pv 1) (by intro _ _; rfl)) pe_int (by intro _ _; rfl)) pa_nil)))) (pss_cons (ps_if (pt_cmpR op_lt (pe_op op_add (pv 1) pe_int) (pe_callB call_len_seq (by rfl) T.n_len PySem.boot_len (pa_cons (pe_fld (pv 0) rfl) pa_nil)) (nomark _)) (pss_one (ps_ret (pe_tup (pa_cons pe_str (pa_cons (pe_op op_add (pv 1) pe_int) (pa_cons (pv 2) pa_nil)))))) pss_nil) (pss_one (ps_ret (pe_tup (pa_cons (pe_ifExp (pt_cmpR op_eq (pe_dget (hu_of hr) (pe_fld (pv 0) rfl) pe_str (by intro _ _; rfl)) pe_str (nomark _)) pe_str pe_str) (pa_cons pe_int (pa_cons (pv 2) pa_nil))))))))), ?_⟩)
  · obtain ⟨H0, p, nq, g, s, t, rfl, _⟩ := h
    rfl
  · obtain ⟨H0, p, nq, g, z, t, rfl, ⟨dx, sg, od, rl, tl, fl, xs, ys, fs, W⟩, hnq, hl, hpos, k⟩ := h
    obtain ⟨md, pos, nt, out⟩ := t
    have ho : H od = some (.dK g.b.kv) := W.s0 _ _ W.ho
    obtain ⟨q, hq1, hq2⟩ := W.rr.2 pos z.rs[pos] (by simp [show pos < z.rs.length from hpos])
    have hget : z.rs[pos]? = some z.rs[pos] := by simp [show pos < z.rs.length from hpos]
    refine ⟨_, rfl, _, rfl, p, _, dx, _, _, rfl, W.hp, T.clW, T.nWreader_rows, rfl, _, rfl, rl, xs, (pos : Nat), .ref q, rfl, rfl, sqL_of W.hr, atI_nat hq1, q, _, 1, _, rfl, rfl, sqT_of hq2, rfl, by show 1 ≤ sizeLine; decide, fun q1 h1 => ?_⟩
    generalize h_H1 : upd H q1 _ = H1
    have s_H1 : Same H H1 := h_H1 ▸ same_upd h1
    have e_H1 := (congrFun h_H1.symm q1).trans upd_same
    refine catT (s_H1 _ _ hnq) e_H1 (by rw [List.length_map]; show nt.length + 1 ≤ 1000; have : nt.length ≤ 100 := hl; omega) fun n2 H2 s2 hn2 => ?_
    have sA := s_H1.trans s2
    have W2 := W.same sA
    have hnt : H2 n2 = some (.tup ((nt ++ [z.rs[pos].cnt]).map V.int)) := by
      rw [hn2, List.map_append]
      rfl
    refine ⟨_, rfl, _, _, rfl, rfl, _, rfl, p, _, dx, _, _, rfl, W2.hp, T.clW, T.nWreader_rows, rfl, rl, xs, rfl, .inl (sqL_of W2.hr), _, _, rfl, rfl, _, rfl, ?_⟩
    have e0 : EpM.noteT g.cf z.rs ⟨md, pos, nt, out⟩ = (if pos + 1 < z.rs.length then ⟨.noting, pos + 1, nt ++ [z.rs[pos].cnt], out⟩ else ⟨if g.b.rd then .waiting else .noted, 0, nt ++ [z.rs[pos].cnt], out⟩) := by
      show (if pos + 1 < z.rs.length then _ else _) = _
      simp only [hget]
      rfl
    refine ite2D (fun e => ?_) (fun e => ?_)
    · have e1 : pos + 1 < z.rs.length := by
        have h1 := W.rr.1
        have h2 : (pos : Int) + 1 < (xs.length : Int) := e
        omega
      rw [if_pos e1] at e0
      refine ⟨_, rfl, _, _, rfl, rfl, _, rfl, by show 3 ≤ sizeLine; decide, fun u hu => ?_⟩
      rw [e0] at k
      refine k u n2 _ (sA.trans (same_upd hu)) ?_ ((upd_ne (ne_of_none hnt hu)).trans hnt)
      rw [upd_same]
      rfl
    · have e1 : ¬ pos + 1 < z.rs.length := by
        have h1 := W.rr.1
        have h2 : ¬ (pos : Int) + 1 < (xs.length : Int) := e
        omega
      rw [if_neg e1] at e0
      rw [e0] at k
      refine ⟨_, rfl, p, _, dx, _, _, rfl, W2.hp, T.clW, T.nWown, rfl, od, g.b.at .read, rfl, dget (sA _ _ ho) .read, rfl, _, rfl, ?_⟩
      cases hrd : g.b.rd with
      | true =>
        rw [hrd] at k
        refine iteDT (by show V.str (rdS g.b.rd) = _; rw [hrd]; decide +kernel) ⟨_, rfl, by show 3 ≤ sizeLine; decide, fun u hu => ?_⟩
        exact k u n2 _ (sA.trans (same_upd hu)) upd_same ((upd_ne (ne_of_none hnt hu)).trans hnt)
      | false =>
        rw [hrd] at k
        refine iteD (by show ¬ V.str (rdS g.b.rd) = _; rw [hrd]; decide +kernel) ⟨_, rfl, by show 3 ≤ sizeLine; decide, fun u hu => ?_⟩
        exact k u n2 _ (sA.trans (same_upd hu)) upd_same ((upd_ne (ne_of_none hnt hu)).trans hnt)
def spLooked (a : Ad) : Sp := fun vs H Q _ => ∃ (H0 : Hp) (p nq : Addr) (g : Cg) (s : EpM.St) (t : EpM.Tk), vs = [.ref p, .int (t.pos : Nat), .ref nq] ∧ WSome a H0 H p g s ∧ H nq = some (.tup (t.nt.map V.int)) ∧ t.pos < s.rs.length ∧ t.pos < t.nt.length ∧
  ∀ u H', Same H H' → H' u = some (.tup [.str (mdS (EpM.lookT s.rs t).md), .int ((EpM.lookT s.rs t).pos : Nat)]) → Q (.ref u) H'
theorem sc_looked : FnScope ["self", "at", "noted", "mode", "count", "flag", "thing"] ["self", "at", "noted"] (defScope (inClass (top 48) 9)) := ⟨rfl, rfl, rfl, by decide +kernel, rfl, by decide +kernel, by decide +kernel⟩
theorem ok_looked (T : TX w K mg a) (F : FunP K "looked" "StillWorld.looked" (inClass (top 48) 9) [] [] f fd) : FnOk P w K mg base CX0 1 f fd ["self", "at", "noted"] (spLooked a) := by
  refine F.ok sc_looked (fun vs H Q E h => ?_) (fun cdv A outer s H vs Q E hr h => ⟨_, PSs.nox ((pss_cons (ps_asg (pe_ix ix_list (pe_fld (pv 0) rfl) (pv 1) (by intro _ _; rfl)) (pg_tup rfl (pgs_cons (pg_name (i := 3) sc_looked.nd rfl (by first | exact Or.inl rfl | exact Or.inr rfl)) (pgs_cons (pg_name (i := 4) sc_looked.nd rfl (by first | exact Or.inl rfl | exact Or.inr rfl)) (pgs_cons (pg_name (i := 5) sc_looked.nd rfl (by first | exact Or.inl rfl | exact Or.inr rfl)) (pgs_cons (pg_name (i := 6) sc_looked.nd rfl (by first | exact Or.inl rfl | exact Or.inr rfl)) pgs_nil)))))) (pss_cons (ps_if (pw_and (pt_cmpR op_eq (pv 4) (pe_ix ix_tup (pv 2) (pv 1) (by intro _ _; rfl)) (nomark _)) (pw_and1 (pt_not (pt_val (pv 5))))).pt (pss_one (ps_ret (pe_tup (pa_cons pe_str (pa_cons (pv 1) pa_nil))))) pss_nil) (pss_one (ps_ret (pe_ifExp (pt_cmpR op_lt (pe_op op_add (pv 1) pe_int) (pe_callB call_len_seq (by rfl) T.n_len PySem.boot_len (pa_cons (pe_fld (pv 0) rfl) pa_nil)) (nomark _)) (pe_tup (pa_cons pe_str (pa_cons (pe_op op_add (pv 1) pe_int) pa_nil))) (pe_tup (pa_cons pe_str (pa_cons pe_int pa_nil))))))))), ?_⟩)
  · obtain ⟨H0, p, nq, g, s, t, rfl, _⟩ := h
    rfl
  · obtain ⟨H0, p, nq, g, z, t, rfl, ⟨dx, sg, od, rl, tl, fl, xs, ys, fs, W⟩, hnq, hpos, hpn, k⟩ := h
    obtain ⟨md, pos, nt, out⟩ := t
    have hpos' : pos < z.rs.length := hpos
    have hpn' : pos < nt.length := hpn
    have hget : z.rs[pos]? = some z.rs[pos] := by simp [hpos']
    obtain ⟨q, hq1, hq2⟩ := W.rr.2 pos z.rs[pos] hget
    have hnt : (nt.map V.int)[pos]? = some (V.int nt[pos]) := by simp [hpn']
    have eg : EpM.goesBy z.rs ⟨md, pos, nt, out⟩ = !(decide (z.rs[pos].cnt = nt[pos]) && !z.rs[pos].flag) := by
      unfold EpM.goesBy
      simp only [hget, List.getD_eq_getElem?_getD, List.getElem?_eq_getElem hpn', Option.getD_some]
    refine ⟨_, rfl, p, _, dx, _, _, rfl, W.hp, T.clW, T.nWreader_rows, rfl, _, rfl, rl, xs, (pos : Nat), .ref q, rfl, rfl, sqL_of W.hr, atI_nat hq1, q, _, rfl, sqT_of hq2, rfl, _, _, rfl, _, _, rfl, _, _, rfl, _, _, rfl, rfl, ?_⟩
    refine ⟨_, rfl, _, rfl, _, rfl, nq, _, (pos : Nat), _, rfl, rfl, sqT_of hnq, atI_nat hnt, rfl, _, rfl, ?_⟩
    have stay : EpM.goesBy z.rs ⟨md, pos, nt, out⟩ = false → EpM.lookT z.rs ⟨md, pos, nt, out⟩ = ⟨.waiting, pos, nt, out⟩ := fun h => by
      unfold EpM.lookT
      rw [h]
      rfl
    have go : EpM.goesBy z.rs ⟨md, pos, nt, out⟩ = true → EpM.lookT z.rs ⟨md, pos, nt, out⟩ = (if pos + 1 < z.rs.length then ⟨.waiting, pos + 1, nt, out⟩ else ⟨.passed, 0, nt, out⟩) := fun h => by
      unfold EpM.lookT
      rw [h]
      rfl
    have rest : EpM.goesBy z.rs ⟨md, pos, nt, out⟩ = true → ∀ (G : Prop), ((pos + 1 < z.rs.length → ∀ u, H u = none → Q (.ref u) (upd H u (.tup [.str "waiting", .int ((pos : Nat) + 1)]))) → (¬ pos + 1 < z.rs.length → ∀ u, H u = none → Q (.ref u) (upd H u (.tup [.str "passed", .int 0]))) → G) → G := fun h G hG => by
      rw [go h] at k
      refine hG (fun e u hu => ?_) (fun e u hu => ?_)
      · rw [if_pos e] at k
        exact k u _ (same_upd hu) upd_same
      · rw [if_neg e] at k
        exact k u _ (same_upd hu) upd_same
    have tail : EpM.goesBy z.rs ⟨md, pos, nt, out⟩ = true → (tRet (tIf (tTest (tOp (rI0 fun i j => .bl (decide (i < j))) (tOp (rI0 fun i j => .int (i + j)) (tVar 1) (tC (.int 1))) (tCB (fun xs H Q => ∃ p ys, xs = [.ref p] ∧ (SqL K H p ys ∨ SqT K H p ys) ∧ Q (.int ys.length) H) (tCons (tFld K (tVar 0) "reader_rows") tNil))))
        (tTup (tCons (tC (.str "waiting")) (tCons (tOp (rI0 fun i j => .int (i + j)) (tVar 1) (tC (.int 1))) tNil))) (tTup (tCons (tC (.str "passed")) (tCons (tC (.int 0)) tNil))))) { nx := fun _ H' => Q .non H', rt := Q } [some (.ref p), some (.int (pos : Nat)), some (.ref nq), some (.str (rdS' z.rs[pos])), some (.int z.rs[pos].cnt), some (.bl z.rs[pos].flag), some (oV z.rs[pos].th)] H := fun h => by
      refine rest h _ fun k1 k2 => ?_
      refine ⟨_, rfl, _, _, rfl, rfl, _, rfl, p, _, dx, _, _, rfl, W.hp, T.clW, T.nWreader_rows, rfl, rl, xs, rfl, .inl (sqL_of W.hr), _, _, rfl, rfl, _, rfl, ?_⟩
      have hlen := W.rr.1
      refine ite2D (fun e => ?_) (fun e => ?_)
      · exact ⟨_, rfl, _, _, rfl, rfl, by show 2 ≤ sizeLine; decide, k1 (by omega)⟩
      · exact ⟨by show 2 ≤ sizeLine; decide, k2 (by omega)⟩
    refine ite2D (fun e => ?_) (fun e => ?_)
    · have ec : z.rs[pos].cnt = nt[pos] := V.int.inj e
      refine ⟨_, rfl, _, rfl, ?_⟩
      cases hfl : z.rs[pos].flag with
      | false =>
        rw [stay (by rw [eg, hfl, decide_eq_true ec]; rfl)] at k
        exact iteT ⟨_, rfl, by show 2 ≤ sizeLine; decide, fun u hu => k u _ (same_upd hu) upd_same⟩
      | true =>
        have tl := tail (by rw [eg, hfl, decide_eq_true ec]; rfl)
        rw [hfl] at tl
        exact iteF tl
    · exact iteF (tail (by rw [eg, decide_eq_false (fun z => e (by rw [z]))]; rfl))
end
end Ep
namespace Ep
open PySem PySem.Spec L2 EpR
open PyProof.Rows hiding St
theorem inV_ints {t : Int} : ∀ {fs : List Int}, t ∉ fs → inV (.int t) (fs.map V.int) = false
  | [], _ => rfl
  | x :: fs, h => by
    have h1 : x ≠ t := fun e => h (by rw [e]; exact List.mem_cons_self)
    have h2 := inV_ints (fs := fs) (fun e => h (List.mem_cons_of_mem _ e))
    show (eqV (.int x) (.int t) || (fs.map V.int).any fun y => eqV y (.int t)) = false
    have h3 : ((fs.map V.int).any fun y => eqV y (.int t)) = false := h2
    rw [h3, Bool.or_false]
    show (x == t) = false
    exact beq_eq_false_iff_ne.mpr h1
theorem flat_ints : ∀ (fs : List Int), (fs.map V.int).all flatV = true
  | [] => rfl
  | _ :: fs => by
    show (true && (fs.map V.int).all flatV) = true
    rw [flat_ints fs]
    rfl
theorem set_same {α : Type} : ∀ {l : List α} {k : Nat} {x : α}, l[k]? = some x → l.set k x = l
  | _ :: _, 0, _, h => by
    simp at h
    simp [h]
  | _ :: l, k + 1, _, h => by
    simp at h
    simp [List.set, set_same h]
theorem rd_use {c : EpM.Cf} {r : EpM.Rd} {d : EpM.Dd} (h : d ∈ EpM.rDeeds c r) : d = .get ∨ d = .still ∨ d = .sleep ∨ d = .wake ∨ d = .use ∨ d = .fin := by
  unfold EpM.rDeeds at h
  revert h
  cases r.th <;> cases r.flag <;> cases c.slp <;> cases c.any <;> cases d <;> simp
section
variable {P : Program} {w : World} {K : PySem.W.Frag} {mg : Str → Option Value} {base : Heap} {a : Ad} {f : Addr} {fd : FuncData}
def spRdoes (a : Ad) : Sp := fun vs H Q _ => ∃ (H0 : Hp) (p : Addr) (g : Cg) (s : EpM.St) (k : Nat) (r : EpM.Rd) (d : EpM.Dd), vs = [.ref p, .int (k : Nat), .str (ddS d)] ∧ WSome a H0 H p g s ∧ s.rs[k]? = some r ∧ d ∈ EpM.rDeeds g.cf r ∧
  (d = .use → ∃ t, r.th = some t ∧ t ∉ s.fr) ∧ ∀ H', WSome a H0 H' p g { s with rs := s.rs.set k (EpM.doR g.cf s.place r d) } → Q .non H'
theorem sc_reader_does : FnScope ["self", "k", "deed", "mode", "count", "flag", "thing"] ["self", "k", "deed"] (defScope (inClass (top 48) 7)) := ⟨rfl, rfl, rfl, by decide +kernel, rfl, by decide +kernel, by decide +kernel⟩
theorem ok_reader_does (T : TX w K mg a) (F : FunP K "reader_does" "StillWorld.reader_does" (inClass (top 48) 7) [] [] f fd) : FnOk P w K mg base CX0 1 f fd ["self", "k", "deed"] (spRdoes a) := by
  refine F.ok sc_reader_does (fun vs H Q E h => ?_) (fun cdv A outer s H vs Q E hr h => ⟨_, PSs.nox ((pss_cons (ps_asg (pe_ix ix_list (pe_fld (pv 0) rfl) (pv 1) (by intro _ _; rfl)) (pg_tup rfl (pgs_cons (pg_name (i := 3) sc_reader_does.nd rfl (by first | exact Or.inl rfl | exact Or.inr rfl)) (pgs_cons (pg_name (i := 4) sc_reader_does.nd rfl (by first | exact Or.inl rfl | exact Or.inr rfl)) (pgs_cons (pg_name (i := 5) sc_reader_does.nd rfl (by first | exact Or.inl rfl | exact Or.inr rfl)) (pgs_cons (pg_name (i := 6) sc_reader_does.nd rfl (by first | exact Or.inl rfl | exact Or.inr rfl)) pgs_nil)))))) (pss_one (ps_if (pt_cmpR op_eq (pv 2) pe_str (nomark _)) (pss_one (ps_asg (pe_tup (pa_cons pe_str (pa_cons (pv 4) (pa_cons (pv 5) (pa_cons (pe_fld (pv 0) rfl) pa_nil))))) (pg_sub (pe_fld (pv 0) rfl) (pv 1) set_list))) (pss_one (ps_if (pt_cmpR op_eq (pv 2) pe_str (nomark _)) (pss_one (ps_asg (pe_tup (pa_cons pe_str (pa_cons (pv 4) (pa_cons (pv 5) (pa_cons pe_non pa_nil))))) (pg_sub (pe_fld (pv 0) rfl) (pv 1) set_list))) (pss_one (ps_if (pt_cmpR op_eq (pv 2) pe_str (nomark _)) (pss_one (ps_asg (pe_tup (pa_cons (pv 3) (pa_cons (pe_op op_mod (pe_op op_add (pv 4) pe_int) (pe_dget (hu_of hr) (pe_fld (pv 0) rfl) pe_str (by intro _ _; rfl))) (pa_cons (pv 5) (pa_cons (pv 6) pa_nil))))) (pg_sub (pe_fld (pv 0) rfl) (pv 1) set_list))) (pss_one (ps_if (pt_cmpR op_in_seq (pv 2) (pe_tup (pa_cons pe_str (pa_cons pe_str pa_nil))) (by with_unfolding_all rfl)) (pss_one (ps_asg (pe_tup (pa_cons (pv 3) (pa_cons (pv 4) (pa_cons (pe_cmpR op_eq (pv 2) pe_str (nomark _)) (pa_cons (pv 6) pa_nil))))) (pg_sub (pe_fld (pv 0) rfl) (pv 1) set_list))) (pss_one (ps_if (pt_cmpR op_in_seq (pv 6) (pe_fld (pv 0) rfl) (by with_unfolding_all rfl)) (pss_one ps_never) pss_nil)))))))))))), ?_⟩)
  · obtain ⟨H0, p, g, s, k, r, d, rfl, _⟩ := h
    rfl
  · obtain ⟨H0, p, g, z, k, r, d, rfl, ⟨dx, sg, od, rl, tl, fl, xs, ys, fs, W⟩, hk, hd, hu, kk⟩ := h
    have ho : H od = some (.dK g.b.kv) := W.s0 _ _ W.ho
    have hc : 0 < g.b.c := by have := W.hs.1.1.1; omega
    obtain ⟨q, hq1, hq2⟩ := W.rr.2 k r hk
    obtain ⟨cnt, flag, th⟩ := r
    have hkl : k < xs.length := (List.getElem?_eq_some_iff.mp hq1).1
    refine ⟨_, rfl, p, _, dx, _, _, rfl, W.hp, T.clW, T.nWreader_rows, rfl, _, rfl, rl, xs, (k : Nat), .ref q, rfl, rfl, sqL_of W.hr, atI_nat hq1, q, _, rfl, sqT_of hq2, rfl, _, _, rfl, _, _, rfl, _, _, rfl, _, _, rfl, rfl, ?_⟩
    have go : ∀ {H1 : Hp} {q1 : Addr} {r' : EpM.Rd} {D : L2.St → Hp → Prop}, Same H H1 → H1 q1 = none → r' = EpM.doR g.cf z.place ⟨cnt, flag, th⟩ d → (∀ H', WSome a H0 H' p g { z with rs := z.rs.set k (EpM.doR g.cf z.place ⟨cnt, flag, th⟩ d) } → D [some (.ref p), some (.int (k : Nat)), some (.str (ddS d)), some (.str (rdS' ⟨cnt, flag, th⟩)), some (.int cnt), some (.bl flag), some (oV th)] H') →
        gSub (tFld K (tVar 0) "reader_rows") (tVar 1) rSetL (.ref q1) [some (.ref p), some (.int (k : Nat)), some (.str (ddS d)), some (.str (rdS' ⟨cnt, flag, th⟩)), some (.int cnt), some (.bl flag), some (oV th)] (upd H1 q1 (.tup (rdT r'))) D := by
      intro H1 q1 r' D s1 h1 er hD
      generalize h_H2 : upd H1 q1 _ = H2
      have s_H2 : Same H1 H2 := h_H2 ▸ same_upd h1
      have e_H2 := (congrFun h_H2.symm q1).trans upd_same
      have W2 := W.same (s1.trans s_H2)
      refine ⟨_, rfl, p, _, dx, _, _, rfl, W2.hp, T.clW, T.nWreader_rows, rfl, _, rfl, rl, xs, (k : Nat), k, rfl, rfl, W2.hr, ixN_nat hkl, ?_⟩
      refine hD _ ⟨dx, sg, od, rl, tl, fl, xs.set k (V.ref q1), ys, fs, ?_⟩
      rw [← er]
      exact W2.setR e_H2
    have hd6 := rd_use hd
    refine ⟨_, rfl, rfl, _, rfl, ?_⟩
    rcases hd6 with rfl | rfl | rfl | rfl | rfl | rfl
    · -- get
      refine iteDT rfl ⟨_, rfl, _, rfl, _, rfl, p, _, dx, _, _, rfl, W.hp, T.clW, T.nWspot, rfl, by show 4 ≤ sizeLine; decide, fun q1 h1 => ?_⟩
      exact go (r' := ⟨cnt, flag, some z.place⟩) (Same.refl _) h1 rfl kk
    · -- still
      refine iteD (by decide +kernel) ⟨_, rfl, rfl, _, rfl, iteD (by decide +kernel) ⟨_, rfl, rfl, _, rfl, iteDT rfl ?_⟩⟩
      refine ⟨_, rfl, _, rfl, _, _, rfl, rfl, _, rfl, p, _, dx, _, _, rfl, W.hp, T.clW, T.nWown, rfl, od, g.b.at .counts, rfl, dget ho .counts, _, _, rfl, rfl, hc, _, rfl, _, rfl, by show 4 ≤ sizeLine; decide, fun q1 h1 => ?_⟩
      exact go (r' := ⟨(cnt + 1) % g.b.c, flag, th⟩) (Same.refl _) h1 rfl kk
    · -- sleep
      refine iteD (by decide +kernel) ⟨_, rfl, rfl, _, rfl, iteD (by decide +kernel) ⟨_, rfl, rfl, _, rfl, iteD (by decide +kernel) ?_⟩⟩
      refine ⟨_, rfl, by show 2 ≤ sizeLine; decide, fun t1 ht1 => ?_⟩
      generalize h_H1 : upd H t1 _ = H1
      have s_H1 : Same H H1 := h_H1 ▸ same_upd ht1
      have e_H1 := (congrFun h_H1.symm t1).trans upd_same
      refine ⟨t1, _, rfl, .inr (sqT_of e_H1), rfl, by decide +kernel, true, by decide +kernel, iteT ?_⟩
      refine ⟨_, rfl, _, rfl, _, rfl, rfl, _, rfl, by show 4 ≤ sizeLine; decide, fun q1 h1 => ?_⟩
      exact go (r' := ⟨cnt, true, th⟩) s_H1 h1 rfl kk
    · -- wake
      refine iteD (by decide +kernel) ⟨_, rfl, rfl, _, rfl, iteD (by decide +kernel) ⟨_, rfl, rfl, _, rfl, iteD (by decide +kernel) ?_⟩⟩
      refine ⟨_, rfl, by show 2 ≤ sizeLine; decide, fun t1 ht1 => ?_⟩
      generalize h_H1 : upd H t1 _ = H1
      have s_H1 : Same H H1 := h_H1 ▸ same_upd ht1
      have e_H1 := (congrFun h_H1.symm t1).trans upd_same
      refine ⟨t1, _, rfl, .inr (sqT_of e_H1), rfl, by decide +kernel, true, by decide +kernel, iteT ?_⟩
      refine ⟨_, rfl, _, rfl, _, rfl, rfl, _, rfl, by show 4 ≤ sizeLine; decide, fun q1 h1 => ?_⟩
      exact go (r' := ⟨cnt, false, th⟩) s_H1 h1 rfl kk
    · -- use
      refine iteD (by decide +kernel) ⟨_, rfl, rfl, _, rfl, iteD (by decide +kernel) ⟨_, rfl, rfl, _, rfl, iteD (by decide +kernel) ?_⟩⟩
      refine ⟨_, rfl, by show 2 ≤ sizeLine; decide, fun t1 ht1 => ?_⟩
      generalize h_H1 : upd H t1 _ = H1
      have s_H1 : Same H H1 := h_H1 ▸ same_upd ht1
      have e_H1 := (congrFun h_H1.symm t1).trans upd_same
      refine ⟨t1, _, rfl, .inr (sqT_of e_H1), rfl, by decide +kernel, false, by decide +kernel, iteF ?_⟩
      have W1 := W.same s_H1
      obtain ⟨t, ht, hn⟩ := hu rfl
      obtain rfl : th = some t := ht
      refine ⟨_, rfl, _, rfl, p, _, dx, _, _, rfl, W1.hp, T.clW, T.nWfreed, rfl, fl, _, rfl, .inl (sqL_of W1.hf), rfl, flat_ints _, false, ?_, iteF ?_⟩
      · show V.bl (inV (.int t) (fs.map V.int)) = _
        rw [inV_ints (fun e => hn ((W.ff.mem_iff).mp e))]
      · refine kk _ ⟨dx, sg, od, rl, tl, fl, xs, ys, fs, ?_⟩
        rw [show EpM.doR g.cf z.place ⟨cnt, flag, some t⟩ .use = ⟨cnt, flag, some t⟩ from rfl, set_same hk]
        exact W1
    · -- end
      refine iteD (by decide +kernel) ⟨_, rfl, rfl, _, rfl, iteDT rfl ?_⟩
      refine ⟨_, rfl, _, rfl, by show 4 ≤ sizeLine; decide, fun q1 h1 => ?_⟩
      exact go (r' := ⟨cnt, flag, none⟩) (Same.refl _) h1 rfl kk
end
end Ep
namespace Ep
open PySem PySem.Spec L2 EpR
open PyProof.Rows hiding St
theorem td_use {c : EpM.Cf} {pl : Int} {m : EpM.Md} {d : EpM.Dd} (h : d ∈ EpM.tDeeds c pl m) : (d = .take ∧ (m = .idle ∨ m = .noted)) ∨ (d = .note ∧ ((m = .idle ∧ c.behind = false) ∨ m = .noting)) ∨ (d = .look ∧ m = .waiting) ∨ (d = .free ∧ m = .passed) := by
  unfold EpM.tDeeds at h
  revert h
  cases m <;> cases hb : c.behind <;> by_cases hp : pl < c.things <;> simp [hp] <;> intro h <;> simp [h]
/-- what is kept at each state -/
structure Good (g : Cg) (s : EpM.St) : Prop where
  cok : g.cf.Ok
  inv : EpM.Inv g.cf s
  rl : s.rs.length = g.r.toNat
  tl : s.ts.length = g.t.toNat
theorem Good.fr {g : Cg} {s : EpM.St} (h : Good g s) (ok : g.ok) : s.fr.length ≤ 40 := by
  have h1 := h.inv.perm.length_eq
  rw [List.length_append, EpM.length_rangeI] at h1
  have h2 := h.inv.pt
  have h3 : g.th ≤ 40 := ok.2.2.2.2.2.2
  have h4 : g.cf.things = g.th := rfl
  omega
theorem Good.rs {g : Cg} {s : EpM.St} (h : Good g s) (ok : g.ok) : s.rs.length ≤ 3 := by
  have h1 := h.rl
  have h2 : g.r ≤ 3 := ok.2.2.1
  omega
theorem Good.ts {g : Cg} {s : EpM.St} (h : Good g s) (ok : g.ok) : s.ts.length ≤ 2 := by
  have h1 := h.tl
  have h2 : g.t ≤ 2 := ok.2.2.2.2.1
  omega
theorem step_len (c : EpM.Cf) (s : EpM.St) (v : EpM.Mv) : (EpM.step c s v).rs.length = s.rs.length ∧ (EpM.step c s v).ts.length = s.ts.length := by
  obtain ⟨tk, k, d⟩ := v
  unfold EpM.step
  cases tk
  · dsimp only
    split <;> simp
  · dsimp only
    split
    · exact ⟨rfl, rfl⟩
    · cases d <;> simp
theorem Good.step {g : Cg} {s : EpM.St} {v : EpM.Mv} (h : Good g s) (hv : v ∈ EpM.moves g.cf s) : Good g (EpM.step g.cf s v) :=
  ⟨h.cok, EpM.inv_step h.cok h.inv hv, (step_len _ _ _).1.trans h.rl, (step_len _ _ _).2.trans h.tl⟩
section
variable {P : Program} {w : World} {K : PySem.W.Frag} {mg : Str → Option Value} {base : Heap} {a : Ad} {f : Addr} {fd : FuncData}
def spTdoes (a : Ad) : Sp := fun vs H Q _ => ∃ (H0 : Hp) (p : Addr) (g : Cg) (s : EpM.St) (k : Nat) (t : EpM.Tk) (d : EpM.Dd), vs = [.ref p, .int (k : Nat), .str (ddS d)] ∧ WSome a H0 H p g s ∧ s.ts[k]? = some t ∧ d ∈ EpM.tDeeds g.cf s.place t.md ∧
  Good g s ∧ ∀ H', WSome a H0 H' p g (EpM.step g.cf s ⟨true, k, d⟩) → Q .non H'
theorem sc_taker_does : FnScope ["self", "k", "deed", "mode", "at", "noted", "out"] ["self", "k", "deed"] (defScope (inClass (top 48) 10)) := ⟨rfl, rfl, rfl, by decide +kernel, rfl, by decide +kernel, by decide +kernel⟩
theorem ok_taker_does (T : TX w K mg a) (m_noted : Met P w K mg base 1 a.CW "noted" (spNoted a)) (m_looked : Met P w K mg base 1 a.CW "looked" (spLooked a)) (F : FunP K "taker_does" "StillWorld.taker_does" (inClass (top 48) 10) [] [] f fd) : FnOk P w K mg base CX0 2 f fd ["self", "k", "deed"] (spTdoes a) := by
  refine F.ok sc_taker_does (fun vs H Q E h => ?_) (fun cdv A outer s H vs Q E hr h => ⟨_, PSs.nox ((pss_cons (ps_asg (pe_ix ix_list (pe_fld (pv 0) rfl) (pv 1) (by intro _ _; rfl)) (pg_tup rfl (pgs_cons (pg_name (i := 3) sc_taker_does.nd rfl (by first | exact Or.inl rfl | exact Or.inr rfl)) (pgs_cons (pg_name (i := 4) sc_taker_does.nd rfl (by first | exact Or.inl rfl | exact Or.inr rfl)) (pgs_cons (pg_name (i := 5) sc_taker_does.nd rfl (by first | exact Or.inl rfl | exact Or.inr rfl)) (pgs_cons (pg_name (i := 6) sc_taker_does.nd rfl (by first | exact Or.inl rfl | exact Or.inr rfl)) pgs_nil)))))) (C8.pss_cut (ps_if (pt_cmpR op_eq (pv 2) pe_str (nomark _)) (pss_cons (ps_set (i := 6) sc_taker_does.nd rfl (by first | exact Or.inl rfl | exact Or.inr rfl) (pe_fld (pv 0) rfl)) (pss_cons (ps_fldaug (pv 0) pe_int in_add) (pss_one (ps_par (i := 3) (j := 4) rfl sc_taker_does.nd rfl rfl (by decide) rfl rfl (pa_cons (pe_ifExp (pt_cmpR op_eq (pe_dget (hu_of hr) (pe_fld (pv 0) rfl) pe_str (by intro _ _; rfl)) pe_str (nomark _)) pe_str pe_str) (pa_cons pe_int pa_nil)) (by rfl))))) (pss_one (ps_if (pt_cmpR op_eq (pv 2) pe_str (nomark _)) (pss_one (ps_asg (pe_m m_noted hr (by decide) (pv 0) (pa_cons (pv 4) (pa_cons (pv 5) pa_nil))) (pg_tup rfl (pgs_cons (pg_name (i := 3) sc_taker_does.nd rfl (by first | exact Or.inl rfl | exact Or.inr rfl)) (pgs_cons (pg_name (i := 4) sc_taker_does.nd rfl (by first | exact Or.inl rfl | exact Or.inr rfl)) (pgs_cons (pg_name (i := 5) sc_taker_does.nd rfl (by first | exact Or.inl rfl | exact Or.inr rfl)) pgs_nil)))))) (pss_one (ps_if (pt_cmpR op_eq (pv 2) pe_str (nomark _)) (pss_one (ps_asg (pe_m m_looked hr (by decide) (pv 0) (pa_cons (pv 4) (pa_cons (pv 5) pa_nil))) (pg_tup rfl (pgs_cons (pg_name (i := 3) sc_taker_does.nd rfl (by first | exact Or.inl rfl | exact Or.inr rfl)) (pgs_cons (pg_name (i := 4) sc_taker_does.nd rfl (by first | exact Or.inl rfl | exact Or.inr rfl)) pgs_nil))))) (pss_cons (ps_fld (pv 0) (pe_callBK (cr_sortedKeyInt (hr.units)) (by rfl) T.n_sorted boot_sorted (pa_cons (pe_op op_cat (pe_fld (pv 0) rfl) (pe_lst (pa_cons (pv 6) pa_nil))) pa_nil) (pk_cons (pe_bltn (v := .ty "int") (by rfl) T.n_int boot_int rfl) pk_nil)) rfl) (pss_one (ps_asg (pe_tup (pa_cons pe_str (pa_cons (pe_tup pa_nil) (pa_cons pe_non pa_nil)))) (pg_tup rfl (pgs_cons (pg_name (i := 3) sc_taker_does.nd rfl (by first | exact Or.inl rfl | exact Or.inr rfl)) (pgs_cons (pg_name (i := 5) sc_taker_does.nd rfl (by first | exact Or.inl rfl | exact Or.inr rfl)) (pgs_cons (pg_name (i := 6) sc_taker_does.nd rfl (by first | exact Or.inl rfl | exact Or.inr rfl)) pgs_nil)))))))))))) (pss_one (ps_asg (pe_tup (pa_cons (pv 3) (pa_cons (pv 4) (pa_cons (pv 5) (pa_cons (pv 6) pa_nil))))) (pg_sub (pe_fld (pv 0) rfl) (pv 1) set_list)))))), ?_⟩)
  · obtain ⟨H0, p, g, s, k, t, d, rfl, _⟩ := h
    rfl
  · obtain ⟨H0, p, g, z, k, t, d, rfl, ⟨dx, sg, od, rl, tl, fl, xs, ys, fs, W⟩, hk, hd, G, kk⟩ := h
    have ho : H od = some (.dK g.b.kv) := W.s0 _ _ W.ho
    have okg : g.ok := W.hs.1
    have TI := G.inv.tI t (List.mem_of_getElem? hk)
    obtain ⟨q, hq1, nq, hq2, hnq⟩ := W.tt.2 k t hk
    have hkl : k < ys.length := (List.getElem?_eq_some_iff.mp hq1).1
    have hrs := G.rs okg
    have hr1 : 1 ≤ z.rs.length := G.inv.nr
    obtain ⟨md, pos, nt, out⟩ := t
    refine ⟨_, rfl, p, _, dx, _, _, rfl, W.hp, T.clW, T.nWtaker_rows, rfl, _, rfl, tl, ys, (k : Nat), .ref q, rfl, rfl, sqL_of W.ht, atI_nat hq1, q, _, rfl, sqT_of hq2, rfl, _, _, rfl, _, _, rfl, _, _, rfl, _, _, rfl, rfl, ?_⟩
    refine ⟨fun σ' H' => ∃ (t' : EpM.Tk) (nq' : Addr) (pl : Int) (fr' : List Int), σ' = [some (.ref p), some (.int (k : Nat)), some (.str (ddS d)), some (.str (mdS t'.md)), some (.int (t'.pos : Nat)), some (.ref nq'), some (oV t'.out)] ∧
      WSome a H0 H' p g ⟨pl, z.rs, z.ts, fr'⟩ ∧ H' nq' = some (.tup (t'.nt.map V.int)) ∧ EpM.step g.cf z ⟨true, k, d⟩ = ⟨pl, z.rs, z.ts.set k t', fr'⟩, ?_, ?_⟩
    · refine ⟨_, rfl, rfl, _, rfl, ?_⟩
      rcases td_use hd with ⟨rfl, hm⟩ | ⟨rfl, hm⟩ | ⟨rfl, hm⟩ | ⟨rfl, hm⟩
      · -- take
        refine iteDT rfl ⟨_, rfl, p, _, dx, _, _, rfl, W.hp, T.clW, T.nWspot, rfl, _, rfl, p, _, dx, _, _, rfl, W.hp, T.clW, T.nWspot, rfl, _, _, rfl, rfl, dx, _, W.hp, by show 7 < 1000; decide, ?_⟩
        rw [putF_spot]
        have W1 := W.spot (pl := z.place + 1)
        have u1 : Tups H (upd H p (.ins a.CW dx (wF sg od (z.place + 1) rl tl fl))) := Tups.upd W.hp (by intro _ q; cases q)
        have ho1 := (upd_ne (H := H) (o := .ins a.CW dx (wF sg od (z.place + 1) rl tl fl)) (ne_of ho W.hp (by intro q; cases q))).trans ho
        refine ⟨_, rfl, p, _, dx, _, _, rfl, W1.hp, T.clW, T.nWown, rfl, od, g.b.at .read, rfl, dget ho1 .read, rfl, _, rfl, ?_⟩
        have est : EpM.step g.cf z ⟨true, k, .take⟩ = ⟨z.place + 1, z.rs, z.ts.set k ⟨if g.b.rd then .noting else .waiting, 0, nt, some z.place⟩, z.fr⟩ := by
          unfold EpM.step
          simp only [hk]
          rfl
        cases hrd : g.b.rd with
        | true =>
          refine iteDT (by show V.str (rdS g.b.rd) = _; rw [hrd]; decide +kernel) ⟨_, _, rfl, ⟨.noting, 0, nt, some z.place⟩, nq, z.place + 1, z.fr, rfl, ⟨_, _, _, _, _, _, _, _, _, W1⟩, u1 _ _ hnq, ?_⟩
          rw [est, hrd]
          rfl
        | false =>
          refine iteD (by show ¬ V.str (rdS g.b.rd) = _; rw [hrd]; decide +kernel) ⟨_, _, rfl, ⟨.waiting, 0, nt, some z.place⟩, nq, z.place + 1, z.fr, rfl, ⟨_, _, _, _, _, _, _, _, _, W1⟩, u1 _ _ hnq, ?_⟩
          rw [est, hrd]
          rfl
      · -- note
        have hpn : pos < z.rs.length ∧ nt.length ≤ 100 := by
          rcases hm with ⟨rfl, _⟩ | rfl
          · obtain ⟨h1, h2, h3⟩ := TI.idle rfl
            have h1' : nt = [] := h1
            have h3' : pos = 0 := h3
            rw [h1', h3']
            exact ⟨by omega, by simp⟩
          · obtain ⟨h1, h2, _⟩ := TI.noting rfl
            have h1' : pos < z.rs.length := h1
            have h2' : nt.length = pos := h2
            exact ⟨h1', by omega⟩
        refine iteD (by decide +kernel) ⟨_, rfl, rfl, _, rfl, iteDT rfl ?_⟩
        refine ⟨_, rfl, p, dx, _, rfl, W.hp, rfl, _, rfl, _, rfl, H0, p, nq, g, z, ⟨md, pos, nt, out⟩, rfl, ⟨_, _, _, _, _, _, _, _, _, W⟩, hnq, hpn.2, hpn.1, fun u nq' H1 s1 hu hnq' => ?_⟩
        refine ⟨u, _, rfl, sqT_of hu, rfl, _, _, rfl, _, _, rfl, _, _, rfl, rfl, EpM.noteT g.cf z.rs ⟨md, pos, nt, out⟩, nq', z.place, z.fr, ?_, ⟨_, _, _, _, _, _, _, _, _, W.same s1⟩, hnq', ?_⟩
        · have eo : (EpM.noteT g.cf z.rs ⟨md, pos, nt, out⟩).out = out := by
            unfold EpM.noteT
            simp only []
            split <;> rfl
          rw [eo]
          rfl
        · unfold EpM.step
          simp only [hk]
      · -- look
        obtain rfl := hm
        obtain ⟨h1, h2, h3⟩ := TI.waiting rfl
        have h1' : pos < z.rs.length := h1
        have h2' : nt.length = z.rs.length := h2
        refine iteD (by decide +kernel) ⟨_, rfl, rfl, _, rfl, iteD (by decide +kernel) ⟨_, rfl, rfl, _, rfl, iteDT rfl ?_⟩⟩
        refine ⟨_, rfl, p, dx, _, rfl, W.hp, rfl, _, rfl, _, rfl, H0, p, nq, g, z, ⟨.waiting, pos, nt, out⟩, rfl, ⟨_, _, _, _, _, _, _, _, _, W⟩, hnq, h1', by show pos < nt.length; omega, fun u H1 s1 hu => ?_⟩
        have e3 : (EpM.lookT z.rs ⟨.waiting, pos, nt, out⟩).out = out ∧ (EpM.lookT z.rs ⟨.waiting, pos, nt, out⟩).nt = nt := by
          unfold EpM.lookT
          split
          · split <;> exact ⟨rfl, rfl⟩
          · exact ⟨rfl, rfl⟩
        refine ⟨u, _, rfl, sqT_of hu, rfl, _, _, rfl, _, _, rfl, rfl, EpM.lookT z.rs ⟨.waiting, pos, nt, out⟩, nq, z.place, z.fr, ?_, ⟨_, _, _, _, _, _, _, _, _, W.same s1⟩, ?_, ?_⟩
        · rw [e3.1]
          rfl
        · rw [e3.2]
          exact s1 _ _ hnq
        · unfold EpM.step
          simp only [hk]
      · -- free
        obtain rfl := hm
        obtain ⟨h1, h2⟩ := TI.passed rfl
        obtain ⟨o, rfl⟩ : ∃ o, out = some o := Option.isSome_iff_exists.mp h2
        have hfl := G.fr okg
        have hff := W.ff.length_eq
        refine iteD (by decide +kernel) ⟨_, rfl, rfl, _, rfl, iteD (by decide +kernel) ⟨_, rfl, rfl, _, rfl, iteD (by decide +kernel) ?_⟩⟩
        refine ⟨_, rfl, p, _, dx, _, _, rfl, W.hp, T.clW, T.nWfreed, rfl, _, rfl, by show 1 ≤ sizeLine; decide, fun l1 hl1 => ?_⟩
        generalize h_H1 : upd H l1 _ = H1
        have s_H1 : Same H H1 := h_H1 ▸ same_upd hl1
        have e_H1 := (congrFun h_H1.symm l1).trans upd_same
        have W1 := W.same s_H1
        refine ⟨fl, l1, _, _, rfl, rfl, W1.hf, e_H1, Nat.le_of_lt (small1000 (by rw [List.length_map]; show fs.length + 1 ≤ 1000; omega)), fun l2 hl2 => ?_⟩
        generalize h_H2 : upd H1 l2 _ = H2
        have s_H2 : Same H1 H2 := h_H2 ▸ same_upd hl2
        have e_H2 := (congrFun h_H2.symm l2).trans upd_same
        have W2 := W1.same s_H2
        have hl2' : H2 l2 = some (.lst ((fs ++ [o]).map V.int)) := by
          rw [e_H2, List.map_append]
          rfl
        refine ⟨l2, fs ++ [o], rfl, rfl, sqL_of hl2', fun ns' l3 hperm hsort hl3 => ?_⟩
        generalize h_H3 : upd H2 l3 _ = H3
        have s_H3 : Same H2 H3 := h_H3 ▸ same_upd hl3
        have e_H3 := (congrFun h_H3.symm l3).trans upd_same
        have W3 := W2.same s_H3
        refine ⟨_, rfl, p, _, dx, _, rfl, W3.hp, T.clW, T.nWfreed, by show 7 < 1000; decide, ?_⟩
        rw [putF_freed]
        have W4 := W3.free (fr' := z.fr ++ [o]) (W2.s0.free hl3) e_H3 (ne_of_none W2.hr hl3) (ne_of_none W2.ht hl3) (hperm.trans (W.ff.append_right _))
        generalize h_H4 : upd H3 p _ = H4 at W4 ⊢
        refine ⟨by show 0 ≤ sizeLine; decide, fun e0 he0 => ?_⟩
        generalize h_H5 : upd H4 e0 _ = H5
        have s_H5 : Same H4 H5 := h_H5 ▸ same_upd he0
        have e_H5 := (congrFun h_H5.symm e0).trans upd_same
        refine ⟨by show 3 ≤ sizeLine; decide, fun e1 he1 => ?_⟩
        generalize h_H6 : upd H5 e1 _ = H6
        have s_H6 : Same H5 H6 := h_H6 ▸ same_upd he1
        have e_H6 := (congrFun h_H6.symm e1).trans upd_same
        refine ⟨e1, _, rfl, sqT_of e_H6, rfl, _, _, rfl, _, _, rfl, _, _, rfl, rfl, ⟨.idle, pos, [], none⟩, e0, z.place, z.fr ++ [o], rfl, ⟨_, _, _, _, _, _, _, _, _, W4.same (s_H5.trans s_H6)⟩, s_H6 _ _ e_H5, ?_⟩
        unfold EpM.step
        simp only [hk]
        rfl
    · rintro σ1 H1 ⟨t', nq', pl, fr', rfl, ⟨dx', sg', od', rl', tl', fl', xs', ys', fs', W1⟩, hn', est⟩
      refine ⟨_, rfl, _, rfl, _, rfl, _, rfl, by show 4 ≤ sizeLine; decide, fun q1 h1 => ?_⟩
      generalize h_H2 : upd H1 q1 _ = H2
      have s_H2 : Same H1 H2 := h_H2 ▸ same_upd h1
      have e_H2 := (congrFun h_H2.symm q1).trans upd_same
      have W2 := W1.same s_H2
      have hkl' : k < ys'.length := by
        rw [W1.tt.1]
        exact (List.getElem?_eq_some_iff.mp hk).1
      refine ⟨_, rfl, p, _, dx', _, _, rfl, W2.hp, T.clW, T.nWtaker_rows, rfl, _, rfl, tl', ys', (k : Nat), k, rfl, rfl, W2.ht, ixN_nat hkl', ?_⟩
      refine kk _ ?_
      rw [est]
      exact ⟨dx', sg', od', rl', tl', fl', xs', ys'.set k (V.ref q1), fs', W2.setT ⟨nq', e_H2, s_H2 _ _ hn'⟩⟩
def spDo (a : Ad) : Sp := fun vs H Q _ => ∃ (H0 : Hp) (p q : Addr) (g : Cg) (s : EpM.St) (v : EpM.Mv), vs = [.ref p, .ref q] ∧ WSome a H0 H p g s ∧ MvAt H q v ∧ v ∈ EpM.moves g.cf s ∧ Good g s ∧ ∀ H', WSome a H0 H' p g (EpM.step g.cf s v) → Q .non H'
theorem sc_wdo : FnScope ["self", "move", "kind", "k", "deed"] ["self", "move"] (defScope (inClass (top 48) 6)) := ⟨rfl, rfl, rfl, by decide +kernel, rfl, by decide +kernel, by decide +kernel⟩
theorem ok_wdo (T : TX w K mg a) (m_reader_does : Met P w K mg base 1 a.CW "reader_does" (spRdoes a)) (m_taker_does : Met P w K mg base 2 a.CW "taker_does" (spTdoes a)) (F : FunP K "do" "StillWorld.do" (inClass (top 48) 6) [] [] f fd) : FnOk P w K mg base CX0 3 f fd ["self", "move"] (spDo a) := by
  refine F.ok sc_wdo (fun vs H Q E h => ?_) (fun cdv A outer s H vs Q E hr h => ⟨_, PSs.nox ((pss_cons (ps_asg (pv 1) (pg_tup rfl (pgs_cons (pg_name (i := 2) sc_wdo.nd rfl (by first | exact Or.inl rfl | exact Or.inr rfl)) (pgs_cons (pg_name (i := 3) sc_wdo.nd rfl (by first | exact Or.inl rfl | exact Or.inr rfl)) (pgs_cons (pg_name (i := 4) sc_wdo.nd rfl (by first | exact Or.inl rfl | exact Or.inr rfl)) pgs_nil))))) (pss_one (ps_if (pt_cmpR op_eq (pv 2) pe_str (nomark _)) (pss_one (ps_expr (pe_m m_reader_does hr (by decide) (pv 0) (pa_cons (pv 3) (pa_cons (pv 4) pa_nil))))) (pss_one (ps_expr (pe_m m_taker_does hr (by decide) (pv 0) (pa_cons (pv 3) (pa_cons (pv 4) pa_nil))))))))), ?_⟩)
  · obtain ⟨H0, p, q, g, s, v, rfl, _⟩ := h
    rfl
  · obtain ⟨H0, p, q, g, z, ⟨tk, k, d⟩, rfl, ⟨dx, sg, od, rl, tl, fl, xs, ys, fs, W⟩, hq, hv, G, kk⟩ := h
    refine ⟨_, rfl, q, _, rfl, sqT_of hq, rfl, _, _, rfl, _, _, rfl, _, _, rfl, rfl, _, rfl, rfl, _, rfl, ?_⟩
    rcases EpM.mem_moves hv with ⟨h1, r, h2, h3⟩ | ⟨h1, t, h2, h3⟩
    · obtain rfl : tk = false := h1
      refine iteDT rfl ⟨_, rfl, p, dx, _, rfl, W.hp, rfl, _, rfl, _, rfl, H0, p, g, z, k, r, d, rfl, ⟨_, _, _, _, _, _, _, _, _, W⟩, h2, h3, fun e => ?_, fun H1 W1 => kk _ ?_⟩
      · subst e
        exact EpM.use_safe G.inv (List.mem_of_getElem? h2) h3
      · have h2' : z.rs[k]? = some r := h2
        have e : EpM.step g.cf z ⟨false, k, d⟩ = { z with rs := z.rs.set k (EpM.doR g.cf z.place r d) } := by
          unfold EpM.step
          simp only [h2']
        rw [e]
        exact W1
    · obtain rfl : tk = true := h1
      exact iteD (by show ¬ V.str "taker" = V.str "reader"; decide +kernel) ⟨_, rfl, p, dx, _, rfl, W.hp, rfl, _, rfl, _, rfl, H0, p, g, z, k, t, d, rfl, ⟨_, _, _, _, _, _, _, _, _, W⟩, h2, h3, G, fun H1 W1 => kk _ W1⟩
end
end Ep
namespace Ep
open PySem PySem.Spec L2 EpR
open PyProof.Rows hiding St
section
variable {P : Program} {w : World} {K : PySem.W.Frag} {mg : Str → Option Value} {base : Heap} {a : Ad} {f : Addr} {fd : FuncData}
theorem kit_self (K : PySem.W.Frag) (C : Addr) : PySem.W.kitOne K (.ref C) (.ref C) = some true := by unfold PySem.W.kitOne; simp
def spLookS (a : Ad) : Sp := fun vs H Q _ => ∃ (s : Addr) (g : Cg), vs = [.ref s] ∧ SetAt a H s g ∧ Q .non H
theorem sc_look_at_setting : FnScope ["value"] ["value"] (defScope (top 45)) := ⟨rfl, rfl, rfl, by decide +kernel, rfl, by decide +kernel, by decide +kernel⟩
theorem ok_look_at_setting (T : TX w K mg a) (F : FunP K "look_at_setting" "look_at_setting" (top 45) [] [] f fd) : FnOk P w K mg base CX0 1 f fd ["value"] (spLookS a) := by
  refine F.ok sc_look_at_setting (fun vs H Q E h => ?_) (fun cdv A outer s H vs Q E hr h => ⟨_, PSs.nox ((pss_one (ps_if (pt_not (pt_val (pe_callB call_isi (by rfl) T.n_isinstance boot_isinstance (pa_cons (pv 0) (pa_cons (C8.pe_gc rfl T.g_Setting) pa_nil))))) (pss_one ps_never) pss_nil))), ?_⟩)
  · obtain ⟨s, g, rfl, _⟩ := h
    rfl
  · obtain ⟨s, g, rfl, ⟨okg, dx, kp, hn, h1, h2, h3⟩, k⟩ := h
    exact ⟨_, rfl, _, _, _, _, true, rfl, .own _, ins_ty T.insT h1, kit_self K a.CT, _, rfl, iteF k⟩
theorem rep1 {K : PySem.W.Frag} {H : Hp} {l q : Addr} {n : Int} {Q : VK} (hl : H l = some (.tup [.ref q])) (h1 : 1 ≤ n) (h2 : n ≤ 100) (k : ∀ z H', Same H H' → H' z = some (.tup (List.replicate n.toNat (.ref q))) → Q (.ref z) H') : rRep1 K (.ref l) (.int n) H Q := by
  refine ⟨l, n, _, rfl, rfl, sqT_of hl, by simp, h1, by omega, by simp, fun e => ?_, fun _ p hp => ?_⟩
  · subst e
    exact k l H (Same.refl _) hl
  · refine k p _ (same_upd hp) ?_
    rw [upd_same]
    have e : ∀ m : Nat, (List.replicate m [V.ref q]).flatten = List.replicate m (V.ref q) := fun m => by
      induction m with
      | zero => rfl
      | succ m ih => rw [List.replicate_succ, List.flatten_cons, ih, List.replicate_succ]; rfl
    rw [e]
def spFirst (a : Ad) : Sp := fun vs H Q _ => ∃ (s : Addr) (g : Cg), vs = [.ref s] ∧ SetAt a H s g ∧ ∀ st H', Same H H' → StateAt H' st (EpM.first g.r.toNat g.t.toNat) → Q (.ref st) H'
theorem sc_first_stills : FnScope ["setting"] ["setting"] (defScope (top 47)) := ⟨rfl, rfl, rfl, by decide +kernel, rfl, by decide +kernel, by decide +kernel⟩
theorem ok_first_stills (T : TX w K mg a) (p_readers : Prp P w K mg base 1 a.CT "readers" (spReaders a)) (p_takers : Prp P w K mg base 1 a.CT "takers" (spTakers a)) (F : FunP K "first_stills" "first_stills" (top 47) [] [] f fd) : FnOk P w K mg base CX0 3 f fd ["setting"] (spFirst a) := by
  refine F.ok sc_first_stills (fun vs H Q E h => ?_) (fun cdv A outer s H vs Q E hr h => ⟨_, PSs.nox ((pss_one (ps_ret (pe_tup (pa_cons pe_int (pa_cons (pe_op op_rep1 (pe_tup (pa_cons (pe_tup (pa_cons pe_str (pa_cons pe_int (pa_cons pe_bl (pa_cons pe_non pa_nil))))) pa_nil)) (pe_p p_readers hr (by decide) (pv 0))) (pa_cons (pe_op op_rep1 (pe_tup (pa_cons (pe_tup (pa_cons pe_str (pa_cons pe_int (pa_cons (pe_tup pa_nil) (pa_cons pe_non pa_nil))))) pa_nil)) (pe_p p_takers hr (by decide) (pv 0))) (pa_cons (pe_tup pa_nil) pa_nil)))))))), ?_⟩)
  · obtain ⟨s, g, rfl, _⟩ := h
    rfl
  · obtain ⟨s, g, rfl, hS, k⟩ := h
    obtain ⟨⟨_, r1, r2, t1, t2, _, _⟩, dx, kp, hn, h1, h2, h3⟩ := id hS
    refine ⟨by show 4 ≤ sizeLine; decide, fun q1 hq1 => ?_⟩
    generalize h_H1 : upd H q1 _ = H1
    have s_H1 : Same H H1 := h_H1 ▸ same_upd hq1
    have e_H1 := (congrFun h_H1.symm q1).trans upd_same
    refine ⟨by show 1 ≤ sizeLine; decide, fun l1 hl1 => ?_⟩
    generalize h_H2 : upd H1 l1 _ = H2
    have s_H2 : Same H1 H2 := h_H2 ▸ same_upd hl1
    have e_H2 := (congrFun h_H2.symm l1).trans upd_same
    have s2 := s_H1.trans s_H2
    refine ⟨_, rfl, s, dx, _, rfl, s2 _ _ h1, s, g, rfl, hS.same s2, rep1 e_H2 r1 (by omega) fun rt H3 s3 hrt => ?_⟩
    refine ⟨by show 0 ≤ sizeLine; decide, fun e0 he0 => ?_⟩
    generalize h_H4 : upd H3 e0 _ = H4
    have s_H4 : Same H3 H4 := h_H4 ▸ same_upd he0
    have e_H4 := (congrFun h_H4.symm e0).trans upd_same
    refine ⟨by show 4 ≤ sizeLine; decide, fun q2 hq2 => ?_⟩
    generalize h_H5 : upd H4 q2 _ = H5
    have s_H5 : Same H4 H5 := h_H5 ▸ same_upd hq2
    have e_H5 := (congrFun h_H5.symm q2).trans upd_same
    refine ⟨by show 1 ≤ sizeLine; decide, fun l2 hl2 => ?_⟩
    generalize h_H6 : upd H5 l2 _ = H6
    have s_H6 : Same H5 H6 := h_H6 ▸ same_upd hl2
    have e_H6 := (congrFun h_H6.symm l2).trans upd_same
    have s35 := s3.trans (s_H4.trans (s_H5.trans s_H6))
    have s6 := s2.trans s35
    refine ⟨_, rfl, s, dx, _, rfl, s6 _ _ h1, s, g, rfl, hS.same s6, rep1 e_H6 t1 (by omega) fun tt H7 s7 htt => ?_⟩
    refine ⟨by show 0 ≤ sizeLine; decide, fun ft hft => ?_⟩
    generalize h_H8 : upd H7 ft _ = H8
    have s_H8 : Same H7 H8 := h_H8 ▸ same_upd hft
    have e_H8 := (congrFun h_H8.symm ft).trans upd_same
    refine ⟨by show 4 ≤ sizeLine; decide, fun st hst => ?_⟩
    generalize h_H9 : upd H8 st _ = H9
    have s_H9 : Same H8 H9 := h_H9 ▸ same_upd hst
    have e_H9 := (congrFun h_H9.symm st).trans upd_same
    have s89 := s_H8.trans s_H9
    have s79 := s7.trans s89
    refine k st H9 (s6.trans s79) ⟨rt, tt, ft, _, _, [], e_H9, (s_H4.trans (s_H5.trans (s_H6.trans s79))) _ _ hrt, s89 _ _ htt, s_H9 _ _ e_H8, ?_, ?_, List.Perm.refl _⟩
    · refine ⟨by show (List.replicate _ _).length = (List.replicate _ _).length; rw [List.length_replicate, List.length_replicate], fun i r e => ?_⟩
      have e' : (List.replicate g.r.toNat (⟨0, false, none⟩ : EpM.Rd))[i]? = some r := e
      rw [List.getElem?_replicate] at e'
      split at e'
      · rename_i hi
        cases e'
        exact ⟨q1, by rw [List.getElem?_replicate, if_pos hi], (s_H2.trans (s35.trans s79)) _ _ e_H1⟩
      · cases e'
    · refine ⟨by show (List.replicate _ _).length = (List.replicate _ _).length; rw [List.length_replicate, List.length_replicate], fun i t e => ?_⟩
      have e' : (List.replicate g.t.toNat (⟨.idle, 0, [], none⟩ : EpM.Tk))[i]? = some t := e
      rw [List.getElem?_replicate] at e'
      split at e'
      · rename_i hi
        cases e'
        exact ⟨q2, by rw [List.getElem?_replicate, if_pos hi], e0, (s_H6.trans s79) _ _ e_H5, (s_H5.trans (s_H6.trans s79)) _ _ e_H4⟩
      · cases e'
def spUns : Sp := fun vs H Q _ => ∃ (st : Addr) (s : EpM.St), vs = [.ref st] ∧ StateAt H st s ∧ Q (.bl false) H
theorem sc_is_unsafe : FnScope ["state"] ["state"] (defScope (top 50)) := ⟨rfl, rfl, rfl, by decide +kernel, rfl, by decide +kernel, by decide +kernel⟩
theorem ok_is_unsafe (F : FunP K "is_unsafe" "is_unsafe" (top 50) [] [] f fd) : FnOk P w K mg base CX0 1 f fd ["state"] spUns := by
  refine F.ok sc_is_unsafe (fun vs H Q E h => ?_) (fun cdv A outer s H vs Q E hr h => ⟨_, PSs.nox ((pss_one (ps_ret (pe_cmpR op_eq (pe_ix ix_tup (pv 0) pe_int (by intro _ _; rfl)) pe_str (nomark _))))), ?_⟩)
  · obtain ⟨st, s, rfl, _⟩ := h
    rfl
  · obtain ⟨st, z, rfl, ⟨rt, tt, ft, xs, ys, fs, h1, _⟩, k⟩ := h
    exact ⟨_, rfl, st, _, 0, _, rfl, rfl, sqT_of h1, rfl, rfl, k⟩
def spWorld (a : Ad) : Sp := fun vs H Q _ => ∃ (s st : Addr) (g : Cg) (z : EpM.St), vs = [.ref s, .ref st] ∧ SetAt a H s g ∧ StateAt H st z ∧ ∀ p H', WSome a H H' p g z → Q (.ref p) H'
theorem sc_world_of : FnScope ["setting", "state"] ["setting", "state"] (defScope (top 51)) := ⟨rfl, rfl, rfl, by decide +kernel, rfl, by decide +kernel, by decide +kernel⟩
theorem ok_world_of (T : TX w K mg a) (p_way : Prp P w K mg base 1 a.CS "way" (spWay a)) (c_StillWorld : Mak P w K mg base 1 "StillWorld" a.CW (spWinit a)) (F : FunP K "world_of" "world_of" (top 51) [] [] f fd) : FnOk P w K mg base CX0 3 f fd ["setting", "state"] (spWorld a) := by
  refine F.ok sc_world_of (fun vs H Q E h => ?_) (fun cdv A outer s H vs Q E hr h => ⟨_, PSs.nox ((pss_cons (ps_if (pt_cmpR op_eq (pe_p p_way hr (by decide) (pe_fld (pv 0) rfl)) pe_str (nomark _)) pss_never pss_nil) (pss_one (ps_ret (pe_ifExp (pt_cmpR op_eq (pe_p p_way hr (by decide) (pe_fld (pv 0) rfl)) pe_str (nomark _)) pe_nev (pe_k c_StillWorld hr (by decide) rfl (pa_cons (pv 0) (pa_cons (pv 1) pa_nil)))))))), ?_⟩)
  · obtain ⟨s, st, g, z, rfl, _⟩ := h
    rfl
  · obtain ⟨s, st, g, z, rfl, hS, hst, k⟩ := h
    obtain ⟨okg, dx, kp, hn, h1, h2, ⟨_, dz, od, ol, h4, h5⟩⟩ := id hS
    have nf : NoF (bkF od ol) := ⟨rfl, rfl, rfl, rfl, rfl⟩
    refine ⟨_, rfl, s, _, dx, _, _, rfl, h1, T.clT, T.nTkept, rfl, kp, dz, _, rfl, h4, kp, dz, _, rfl, h4, nf, rfl, _, rfl, iteD (by decide +kernel) ?_⟩
    refine ⟨_, rfl, s, _, dx, _, _, rfl, h1, T.clT, T.nTkept, rfl, kp, dz, _, rfl, h4, kp, dz, _, rfl, h4, nf, rfl, _, rfl, iteD (by decide +kernel) ?_⟩
    refine ⟨_, rfl, _, rfl, fun x dy hx hy hne => ?_⟩
    have s0 : Same H (upd (upd H dy (.own x)) x (.ins a.CW dy [])) := fun b o e => by
      rw [upd_ne (ne_of_none e hx), upd_ne (ne_of_none e hy)]
      exact e
    exact ⟨H, x, dy, s, st, g, z, rfl, s0, hx, upd_same, hS, hst.mono (.of s0), fun H' W => ⟨rfl, k x H' W⟩⟩
theorem sc_first_state : FnScope ["setting"] ["setting"] (defScope (top 52)) := ⟨rfl, rfl, rfl, by decide +kernel, rfl, by decide +kernel, by decide +kernel⟩
theorem ok_first_state (T : TX w K mg a) (c_look_at_setting : Cal P w K mg base 1 "look_at_setting" (spLookS a)) (p_way : Prp P w K mg base 1 a.CS "way" (spWay a)) (c_first_stills : Cal P w K mg base 3 "first_stills" (spFirst a)) (F : FunP K "first_state" "first_state" (top 52) [] [] f fd) : FnOk P w K mg base CX0 4 f fd ["setting"] (spFirst a) := by
  refine F.ok sc_first_state (fun vs H Q E h => ?_) (fun cdv A outer s H vs Q E hr h => ⟨_, PSs.nox ((pss_cons (ps_expr (pe_c c_look_at_setting hr (by decide) rfl (pa_cons (pv 0) pa_nil))) (pss_cons (ps_if (pt_cmpR op_eq (pe_p p_way hr (by decide) (pe_fld (pv 0) rfl)) pe_str (nomark _)) pss_never pss_nil) (pss_one (ps_ret (pe_ifExp (pt_cmpR op_eq (pe_p p_way hr (by decide) (pe_fld (pv 0) rfl)) pe_str (nomark _)) pe_nev (pe_c c_first_stills hr (by decide) rfl (pa_cons (pv 0) pa_nil)))))))), ?_⟩)
  · obtain ⟨s, g, rfl, _⟩ := h
    rfl
  · obtain ⟨s, g, rfl, hS, k⟩ := h
    obtain ⟨okg, dx, kp, hn, h1, h2, ⟨_, dz, od, ol, h4, h5⟩⟩ := id hS
    have nf : NoF (bkF od ol) := ⟨rfl, rfl, rfl, rfl, rfl⟩
    refine ⟨_, rfl, s, g, rfl, hS, ?_⟩
    refine ⟨_, rfl, s, _, dx, _, _, rfl, h1, T.clT, T.nTkept, rfl, kp, dz, _, rfl, h4, kp, dz, _, rfl, h4, nf, rfl, _, rfl, iteD (by decide +kernel) ?_⟩
    exact ⟨_, rfl, s, _, dx, _, _, rfl, h1, T.clT, T.nTkept, rfl, kp, dz, _, rfl, h4, kp, dz, _, rfl, h4, nf, rfl, _, rfl, iteD (by decide +kernel) ⟨_, rfl, s, g, rfl, hS, k⟩⟩
def spMvs (a : Ad) : Sp := fun vs H Q _ => ∃ (s st : Addr) (g : Cg) (z : EpM.St), vs = [.ref s, .ref st] ∧ SetAt a H s g ∧ StateAt H st z ∧ Good g z ∧ ∀ l ms H', Same H H' → H l = none → H' l = some (.lst ms) → Mvs H' ms (EpM.moves g.cf z) → Q (.ref l) H'
theorem sc_rmoves : FnScope ["setting", "state"] ["setting", "state"] (defScope (top 53)) := ⟨rfl, rfl, rfl, by decide +kernel, rfl, by decide +kernel, by decide +kernel⟩
theorem ok_rmoves (T : TX w K mg a) (c_look_at_setting : Cal P w K mg base 1 "look_at_setting" (spLookS a)) (c_is_unsafe : Cal P w K mg base 1 "is_unsafe" spUns) (c_world_of : Cal P w K mg base 3 "world_of" (spWorld a)) (m_moves : Met P w K mg base 4 a.CW "moves" (spMoves a)) (F : FunP K "moves" "moves" (top 53) [] [] f fd) : FnOk P w K mg base CX0 5 f fd ["setting", "state"] (spMvs a) := by
  refine F.ok sc_rmoves (fun vs H Q E h => ?_) (fun cdv A outer s H vs Q E hr h => ⟨_, PSs.nox ((pss_cons (ps_expr (pe_c c_look_at_setting hr (by decide) rfl (pa_cons (pv 0) pa_nil))) (pss_one (ps_ret (pe_ifExp (pt_val (pe_c c_is_unsafe hr (by decide) rfl (pa_cons (pv 1) pa_nil))) pe_nev (pe_m0 m_moves hr (by decide) (pe_c c_world_of hr (by decide) rfl (pa_cons (pv 0) (pa_cons (pv 1) pa_nil))))))))), ?_⟩)
  · obtain ⟨s, st, g, z, rfl, _⟩ := h
    rfl
  · obtain ⟨s, st, g, z, rfl, hS, hst, G, k⟩ := h
    refine ⟨_, rfl, s, g, rfl, hS, ?_⟩
    refine ⟨_, rfl, st, z, rfl, hst, _, rfl, iteF ?_⟩
    refine ⟨_, rfl, _, rfl, s, st, g, z, rfl, hS, hst, fun p H1 W1 => ?_⟩
    obtain ⟨dx, sg, od, rl, tl, fl, xs, ys, fs, W⟩ := id W1
    exact ⟨p, dx, _, rfl, W.hp, rfl, H, p, g, z, rfl, W1, Nat.le_trans (G.rs hS.1) (by decide), Nat.le_trans (G.ts hS.1) (by decide), fun l ms H2 s2 hn hl hm => k l ms H2 (W.s0.trans s2) (W.s0.free hn) hl hm⟩
def spForm : Sp := fun vs H Q _ => ∃ (q : Addr) (v : EpM.Mv), vs = [.ref q] ∧ MvAt H q v ∧ Q (.bl true) H
theorem sc_has_form : FnScope ["move"] ["move"] (defScope (top 55)) := ⟨rfl, rfl, rfl, by decide +kernel, rfl, by decide +kernel, by decide +kernel⟩
theorem ok_has_form (T : TX w K mg a) (F : FunP K "has_form" "has_form" (top 55) [] [] f fd) : FnOk P w K mg base CX0 1 f fd ["move"] spForm := by
  refine F.ok sc_has_form (fun vs H Q E h => ?_) (fun cdv A outer s H vs Q E hr h => ⟨_, PSs.nox ((pss_cons (ps_if (pw_or (pt_not (pt_val (pe_callB call_isi (by rfl) T.n_isinstance boot_isinstance (pa_cons (pv 0) (pa_cons (pe_bltn (v := .ty "tuple") (by rfl) T.n_tuple boot_tuple rfl) pa_nil))))) (pw_or (pt_cmpR op_ne (pe_callB call_len_seq (by rfl) T.n_len PySem.boot_len (pa_cons (pv 0) pa_nil)) pe_int (nomark _)) (pw_or (pt_val (pe_callB call_isi (by rfl) T.n_isinstance boot_isinstance (pa_cons (pe_ix ix_tup (pv 0) pe_int (by intro _ _; rfl)) (pa_cons (pe_bltn (v := .ty "bool") (by rfl) T.n_bool boot_bool rfl) pa_nil)))) (pw_or1 (pt_not (pt_val (pe_callB call_isi (by rfl) T.n_isinstance boot_isinstance (pa_cons (pe_ix ix_tup (pv 0) pe_int (by intro _ _; rfl)) (pa_cons (pe_bltn (v := .ty "int") (by rfl) T.n_int boot_int rfl) pa_nil))))))))).pt (pss_one (ps_ret pe_bl)) pss_nil) (pss_one (ps_ret (pe_and (pe_callB call_isi (by rfl) T.n_isinstance boot_isinstance (pa_cons (pe_ix ix_tup (pv 0) pe_int (by intro _ _; rfl)) (pa_cons (pe_bltn (v := .ty "str") (by rfl) T.n_str boot_str rfl) pa_nil))) (pe_one (pe_callB call_isi (by rfl) T.n_isinstance boot_isinstance (pa_cons (pe_ix ix_tup (pv 0) pe_int (by intro _ _; rfl)) (pa_cons (pe_bltn (v := .ty "str") (by rfl) T.n_str boot_str rfl) pa_nil))))))))), ?_⟩)
  · obtain ⟨q, v, rfl, _⟩ := h
    rfl
  · obtain ⟨q, v, rfl, hq, k⟩ := h
    refine ⟨_, rfl, _, _, _, _, true, rfl, .ty _, .base (.tup hq), rfl, _, rfl, iteF ?_⟩
    refine ⟨_, rfl, _, _, rfl, .inr (sqT_of hq), rfl, _, rfl, iteN rfl ?_⟩
    refine ⟨_, rfl, q, _, 1, _, rfl, rfl, sqT_of hq, rfl, _, _, _, _, _, rfl, .ty _, .base (.int _), rfl, _, rfl, iteF ?_⟩
    refine ⟨_, rfl, q, _, 1, _, rfl, rfl, sqT_of hq, rfl, _, _, _, _, _, rfl, .ty _, .base (.int _), rfl, _, rfl, iteF ?_⟩
    exact ⟨_, rfl, q, _, 0, _, rfl, rfl, sqT_of hq, rfl, _, _, _, _, _, rfl, .ty _, .base (.str _), rfl, _, rfl, iteT ⟨_, rfl, q, _, 2, _, rfl, rfl, sqT_of hq, rfl, _, _, _, _, _, rfl, .ty _, .base (.str _), rfl, k⟩⟩
end
end Ep
namespace Ep
open PySem PySem.Spec L2 EpR
open PyProof.Rows hiding St
theorem units65 {A : Around} {k : Nat} (hr : Room k A) : A.units + 65 < cLine := by
  have := hr.un
  omega
def mvD (v : EpM.Mv) : PyData := .tuple [.str (kdS v.tk), .int (v.k : Nat), .str (ddS v.d)]
theorem mvD_lay (v : EpM.Mv) : (mvD v).canLay0 = true := by
  obtain ⟨tk, k, d⟩ := v
  show (PyData.canLay0 (.str (kdS tk)) && (true && (PyData.canLay0 (.str (ddS d)) && true))) = true
  clear k
  cases tk <;> cases d <;> decide +kernel
theorem mvD_depth (v : EpM.Mv) : (mvD v).depth ≤ 1 := by
  show max 0 (max 0 (max 0 0)) + 1 ≤ 1
  decide
theorem mvs_lay : ∀ ms : List EpM.Mv, PyData.canLayAll0 (ms.map mvD) = true
  | [] => rfl
  | v :: ms => by
    show (PyData.canLay0 (mvD v) && PyData.canLayAll0 (ms.map mvD)) = true
    rw [mvD_lay, mvs_lay ms]
    rfl
theorem mvs_depth : ∀ ms : List EpM.Mv, PyData.depthAll (ms.map mvD) ≤ 1
  | [] => by decide
  | v :: ms => by
    show max (mvD v).depth (PyData.depthAll (ms.map mvD)) ≤ 1
    exact Nat.max_le.mpr ⟨mvD_depth v, mvs_depth ms⟩
theorem mvD_shaped (v : EpM.Mv) : SeqAt.shaped (mvD v) = true := by
  unfold SeqAt.shaped
  rw [mvD_lay, decide_eq_true (Nat.le_trans (mvD_depth v) (by decide))]
  rfl
theorem mvs_shaped (ms : List EpM.Mv) : SeqAt.shaped (.list (ms.map mvD)) = true := by
  unfold SeqAt.shaped
  have h1 : (PyData.list (ms.map mvD)).canLay0 = true := mvs_lay ms
  have h2 : (PyData.list (ms.map mvD)).depth ≤ 64 := by
    show PyData.depthAll (ms.map mvD) + 1 ≤ 64
    have := mvs_depth ms
    omega
  rw [h1, decide_eq_true h2]
  rfl
theorem mv_dp {K : PySem.W.Frag} {H : Hp} {q : Addr} {v : EpM.Mv} (h : MvAt H q v) : Dp K H (.ref q) (mvD v) := .tup (sqT_of h) (.cons (.str _) (.cons (.int _) (.cons (.str _) .nil)))
theorem mvs_dp {K : PySem.W.Frag} {H : Hp} : ∀ {xs : List V} {ms : List EpM.Mv}, Mvs H xs ms → DpAll K H xs (ms.map mvD)
  | [], [], _ => .nil
  | [], _ :: _, h => nomatch h.1
  | _ :: _, [], h => nomatch h.1
  | x :: xs, v :: ms, h => by
    obtain ⟨q, h1, h2⟩ := h.2 0 v rfl
    obtain rfl : x = .ref q := Option.some.inj h1
    exact .cons (mv_dp h2) (mvs_dp ⟨Nat.succ.inj h.1, fun i u e => h.2 (i + 1) u e⟩)
theorem atI_last {xs : List V} {x : V} : atI (xs ++ [x]) (-1) = some x := by
  have hl : (xs ++ [x]).length = xs.length + 1 := by simp
  unfold atI ixN
  rw [if_neg (by decide), hl, if_pos (by omega)]
  show (xs ++ [x])[((-1 : Int) + ((xs.length + 1 : Nat) : Int)).toNat]? = some x
  rw [show ((-1 : Int) + ((xs.length + 1 : Nat) : Int)).toNat = xs.length by omega]
  simp
section
variable {P : Program} {w : World} {K : PySem.W.Frag} {mg : Str → Option Value} {base : Heap} {a : Ad} {f : Addr} {fd : FuncData}
def spPoss (a : Ad) : Sp := fun vs H Q _ => ∃ (s st q : Addr) (g : Cg) (z : EpM.St) (v : EpM.Mv), vs = [.ref s, .ref st, .ref q] ∧ SetAt a H s g ∧ StateAt H st z ∧ Good g z ∧ MvAt H q v ∧ v ∈ EpM.moves g.cf z ∧ ∀ H', Same H H' → Q (.bl true) H'
theorem sc_is_possible : FnScope ["setting", "state", "move"] ["setting", "state", "move"] (defScope (top 56)) := ⟨rfl, rfl, rfl, by decide +kernel, rfl, by decide +kernel, by decide +kernel⟩
theorem ok_is_possible (c_has_form : Cal P w K mg base 1 "has_form" spForm) (c_moves_rules : Cal P w K mg base 5 "moves_rules" (spMvs a)) (F : FunP K "is_possible" "is_possible" (top 56) [] [] f fd) : FnOk P w K mg base CX0 6 f fd ["setting", "state", "move"] (spPoss a) := by
  refine F.ok sc_is_possible (fun vs H Q E h => ?_) (fun cdv A outer s H vs Q E hr h => ⟨_, PSs.nox ((pss_one (ps_ret (pe_and (pe_c c_has_form hr (by decide) rfl (pa_cons (pv 2) pa_nil)) (pe_one (pe_cmpR (op_inD (units65 hr)) (pv 2) (pe_c c_moves_rules hr (by decide) rfl (pa_cons (pv 0) (pa_cons (pv 1) pa_nil))) (by with_unfolding_all rfl))))))), ?_⟩)
  · obtain ⟨s, st, q, g, z, v, rfl, _⟩ := h
    rfl
  · obtain ⟨s, st, q, g, z, v, rfl, hS, hst, G, hq, hv, k⟩ := h
    refine ⟨_, rfl, q, v, rfl, hq, _, rfl, iteT ?_⟩
    refine ⟨_, rfl, _, rfl, _, rfl, s, st, g, z, rfl, hS, hst, G, fun l ms H1 s1 _ hl hm => ?_⟩
    refine ⟨mvD v, (EpM.moves g.cf z).map mvD, mv_dp (s1 _ _ hq), .lst (sqL_of hl) (mvs_dp hm), mvD_shaped v, mvs_shaped _, ?_⟩
    have e : ((EpM.moves g.cf z).map mvD).any (fun z => PyData.eqv z (mvD v)) = true := List.any_eq_true.mpr ⟨mvD v, List.mem_map.mpr ⟨v, hv, rfl⟩, SeqAt.eqv_refl _ (mvD_lay v)⟩
    rw [e]
    exact k H1 s1
def spStep (a : Ad) : Sp := fun vs H Q _ => ∃ (s st q : Addr) (g : Cg) (z : EpM.St) (v : EpM.Mv), vs = [.ref s, .ref st, .ref q] ∧ SetAt a H s g ∧ StateAt H st z ∧ Good g z ∧ MvAt H q v ∧ v ∈ EpM.moves g.cf z ∧ ∀ st' H', Same H H' → StateAt H' st' (EpM.step g.cf z v) → Q (.ref st') H'
theorem sc_step : FnScope ["setting", "state", "move", "world"] ["setting", "state", "move"] (defScope (top 57)) := ⟨rfl, rfl, rfl, by decide +kernel, rfl, by decide +kernel, by decide +kernel⟩
theorem ok_step (c_look_at_setting : Cal P w K mg base 1 "look_at_setting" (spLookS a)) (c_is_possible : Cal P w K mg base 6 "is_possible" (spPoss a)) (c_world_of : Cal P w K mg base 3 "world_of" (spWorld a)) (m_do : Met P w K mg base 3 a.CW "do" (spDo a)) (m_state : Met P w K mg base 1 a.CW "state" (spWstate a)) (F : FunP K "step" "step" (top 57) [] [] f fd) : FnOk P w K mg base CX0 7 f fd ["setting", "state", "move"] (spStep a) := by
  refine F.ok sc_step (fun vs H Q E h => ?_) (fun cdv A outer s H vs Q E hr h => ⟨_, PSs.nox ((pss_cons (ps_expr (pe_c c_look_at_setting hr (by decide) rfl (pa_cons (pv 0) pa_nil))) (pss_cons (ps_if (pt_not (pt_val (pe_c c_is_possible hr (by decide) rfl (pa_cons (pv 0) (pa_cons (pv 1) (pa_cons (pv 2) pa_nil)))))) (pss_one ps_never) pss_nil) (pss_cons (ps_set (i := 3) sc_step.nd rfl (by first | exact Or.inl rfl | exact Or.inr rfl) (pe_c c_world_of hr (by decide) rfl (pa_cons (pv 0) (pa_cons (pv 1) pa_nil)))) (pss_cons (ps_expr (pe_m m_do hr (by decide) (pv 3) (pa_cons (pv 2) pa_nil))) (pss_one (ps_ret (pe_m0 m_state hr (by decide) (pv 3))))))))), ?_⟩)
  · obtain ⟨s, st, q, g, z, v, rfl, _⟩ := h
    rfl
  · obtain ⟨s, st, q, g, z, v, rfl, hS, hst, G, hq, hv, k⟩ := h
    refine ⟨_, rfl, s, g, rfl, hS, ?_⟩
    refine ⟨_, rfl, _, rfl, _, rfl, s, st, q, g, z, v, rfl, hS, hst, G, hq, hv, fun H1 s1 => ⟨_, rfl, iteF ?_⟩⟩
    refine ⟨_, rfl, _, rfl, s, st, g, z, rfl, hS.same s1, hst.mono (.of s1), fun p H2 W2 => ?_⟩
    obtain ⟨dx, sg, od, rl, tl, fl, xs, ys, fs, W⟩ := id W2
    refine ⟨_, rfl, p, dx, _, rfl, W.hp, rfl, _, rfl, H1, p, q, g, z, v, rfl, W2, W.s0 _ _ (s1 _ _ hq), hv, G, fun H3 W3 => ?_⟩
    obtain ⟨dx3, sg3, od3, rl3, tl3, fl3, xs3, ys3, fs3, V3⟩ := id W3
    exact ⟨_, rfl, p, dx3, _, rfl, V3.hp, rfl, H1, p, g, _, rfl, W3, fun st' H4 s4 h4 => k st' H4 (s1.trans (V3.s0.trans s4)) h4⟩
/-! benches -/
def nF (sg dl sl : Addr) : List (Str × V) := [("setting", .ref sg), ("done", .ref dl), ("states", .ref sl)]
structure NAt (a : Ad) (H : Hp) (b dx sg dl sl st : Addr) (g : Cg) (z : EpM.St) (ds xs : List V) : Prop where
  hb : H b = some (.ins a.CN dx (nF sg dl sl))
  hd : H dl = some (.lst ds)
  hs : H sl = some (.lst (xs ++ [.ref st]))
  hS : SetAt a H sg g
  hst : StateAt H st z
  n : dl ≠ sl
  G : Good g z
theorem NAt.same {H H' : Hp} {b dx sg dl sl st : Addr} {g : Cg} {z : EpM.St} {ds xs : List V} (N : NAt a H b dx sg dl sl st g z ds xs) (s : Same H H') : NAt a H' b dx sg dl sl st g z ds xs :=
  ⟨s _ _ N.hb, s _ _ N.hd, s _ _ N.hs, N.hS.same s, N.hst.mono (.of s), N.n, N.G⟩
def SameX (x y : Addr) (H H' : Hp) : Prop := ∀ q o, q ≠ x → q ≠ y → H q = some o → H' q = some o
theorem SetAt.samex {H H' : Hp} {x y s : Addr} {xs ys : List V} {g : Cg} (m : SameX x y H H') (hx : H x = some (.lst xs)) (hy : H y = some (.lst ys)) (h : SetAt a H s g) : SetAt a H' s g := by
  have k : ∀ q o, H q = some o → (∀ l, o ≠ .lst l) → H' q = some o := fun q o e n => m q o (fun z => by rw [z, hx] at e; exact n _ (Option.some.inj e).symm) (fun z => by rw [z, hy] at e; exact n _ (Option.some.inj e).symm) e
  obtain ⟨okg, dx, kp, hn, h1, h2, ⟨okb, dz, od, ol, h4, h5⟩⟩ := h
  exact ⟨okg, dx, kp, hn, k _ _ h1 (by intro l q; cases q), k _ _ h2 (by intro l q; cases q), okb, dz, od, ol, k _ _ h4 (by intro l q; cases q), k _ _ h5 (by intro l q; cases q)⟩
theorem tups_samex {H H' : Hp} {x y : Addr} {xs ys : List V} (m : SameX x y H H') (hx : H x = some (.lst xs)) (hy : H y = some (.lst ys)) : Tups H H' := fun q o e => m q _ (fun z => by rw [z, hx] at e; cases e) (fun z => by rw [z, hy] at e; cases e) e
def spNinit (a : Ad) : Sp := fun vs H Q _ => ∃ (b dx s : Addr) (g : Cg), vs = [.ref b, .ref s] ∧ H b = some (.ins a.CN dx []) ∧ SetAt a H s g ∧ g.cf.Ok ∧ s ≠ b ∧
  ∀ dl sl st H', SameB b H H' → H dl = none → H sl = none → NAt a H' b dx s dl sl st g (EpM.first g.r.toNat g.t.toNat) [] [] → Q .non H'
theorem sc_ninit : FnScope ["self", "setting"] ["self", "setting"] (defScope (inClass (top 61) 0)) := ⟨rfl, rfl, rfl, by decide +kernel, rfl, by decide +kernel, by decide +kernel⟩
theorem ok_ninit (T : TX w K mg a) (c_look_at_setting : Cal P w K mg base 1 "look_at_setting" (spLookS a)) (c_first_state : Cal P w K mg base 4 "first_state" (spFirst a)) (F : FunP K "__init__" "Bench.__init__" (inClass (top 61) 0) [] [] f fd) : FnOk P w K mg base CX0 5 f fd ["self", "setting"] (spNinit a) := by
  refine F.ok sc_ninit (fun vs H Q E h => ?_) (fun cdv A outer s H vs Q E hr h => ⟨_, PSs.nox ((pss_cons (ps_expr (pe_c c_look_at_setting hr (by decide) rfl (pa_cons (pv 1) pa_nil))) (pss_cons (ps_fld (pv 0) (pv 1) rfl) (pss_cons (ps_fld (pv 0) (pe_lst pa_nil) rfl) (pss_one (ps_fld (pv 0) (pe_lst (pa_cons (pe_c c_first_state hr (by decide) rfl (pa_cons (pv 1) pa_nil)) pa_nil)) rfl)))))), ?_⟩)
  · obtain ⟨b, dx, s, g, rfl, _⟩ := h
    rfl
  · obtain ⟨b, dx, s, g, rfl, hb, hS, hc, nsb, k⟩ := h
    have keep : ∀ {H1 H2 : Hp}, SameB b H1 H2 → (∃ fs, H1 b = some (.ins a.CN dx fs) ∧ fs.lookup ("own" : Str) = none) → SetAt a H1 s g → SetAt a H2 s g := by
      rintro H1 H2 m ⟨fs, hb1, hno⟩ ⟨okg, dy, kp, hn, h1, h2, ⟨okb, dz, od, ol, h4, h5⟩⟩
      have n4 : kp ≠ b := fun e => by
        rw [e, hb1] at h4
        injection Option.some.inj h4 with e1 e2 e3
        rw [e3] at hno
        exact nomatch (hno.symm.trans (rfl : (bkF od ol).lookup ("own" : Str) = some (.ref od)))
      exact ⟨okg, dy, kp, hn, m _ _ nsb h1, m _ _ (fun e => by rw [e, hb1] at h2; cases h2) h2, okb, dz, od, ol, m _ _ n4 h4, m _ _ (fun e => by rw [e, hb1] at h5; cases h5) h5⟩
    refine ⟨_, rfl, s, g, rfl, hS, ?_⟩
    refine ⟨_, rfl, _, rfl, b, _, dx, _, rfl, hb, T.clN, T.nNsetting, by show 0 < 1000; decide, ?_⟩
    generalize h_H1 : upd H b _ = H1
    have b_H1 : SameB b H H1 := h_H1 ▸ sameB_upd
    have e_H1 := (congrFun h_H1.symm b).trans upd_same
    have hS1 := keep b_H1 ⟨_, hb, rfl⟩ hS
    refine ⟨by show 0 ≤ sizeLine; decide, fun dl hdl => ?_⟩
    generalize h_H2 : upd H1 dl _ = H2
    have s_H2 : Same H1 H2 := h_H2 ▸ same_upd hdl
    have e_H2 := (congrFun h_H2.symm dl).trans upd_same
    refine ⟨_, rfl, b, _, dx, _, rfl, s_H2 _ _ e_H1, T.clN, T.nNdone, by show 1 < 1000; decide, ?_⟩
    generalize h_H3 : upd H2 b _ = H3
    have b_H3 : SameB b H2 H3 := h_H3 ▸ sameB_upd
    have e_H3 := (congrFun h_H3.symm b).trans upd_same
    have hS3 := keep b_H3 ⟨_, s_H2 _ _ e_H1, rfl⟩ (hS1.same s_H2)
    refine ⟨_, rfl, s, g, rfl, hS3, fun st H4 s4 hst => ?_⟩
    refine ⟨by show 1 ≤ sizeLine; decide, fun sl hsl => ?_⟩
    generalize h_H5 : upd H4 sl _ = H5
    have s_H5 : Same H4 H5 := h_H5 ▸ same_upd hsl
    have e_H5 := (congrFun h_H5.symm sl).trans upd_same
    have s5 := s4.trans s_H5
    refine ⟨_, rfl, b, _, dx, _, rfl, s5 _ _ e_H3, T.clN, T.nNstates, by show 2 < 1000; decide, ?_⟩
    generalize h_H6 : upd H5 b _ = H6
    have b_H6 : SameB b H5 H6 := h_H6 ▸ sameB_upd
    have e_H6 := (congrFun h_H6.symm b).trans upd_same
    have nd : dl ≠ b := fun e => by rw [e, e_H1] at hdl; cases hdl
    have hdl3 : H3 dl = some (.lst []) := b_H3 _ _ nd e_H2
    have hsl3 : H3 sl = none := s4.free hsl
    have nsl : sl ≠ b := fun e => by rw [e, e_H3] at hsl3; cases hsl3
    have free_b : ∀ {H1 H2 : Hp} {q : Addr}, SameB b H1 H2 → q ≠ b → H2 q = none → H1 q = none := fun {H1 H2 q} m n e => by
      cases z : H1 q with
      | none => rfl
      | some o => rw [m _ _ n z] at e; cases e
    have u6 : Tups H5 H6 := h_H6 ▸ Tups.upd (s5 _ _ e_H3) (by intro _ q; cases q)
    refine k dl sl st H6 (b_H1.trans ((SameB.of s_H2).trans (b_H3.trans ((SameB.of s5).trans b_H6)))) (free_b b_H1 nd hdl) (free_b b_H1 nsl (s_H2.free (free_b b_H3 nsl hsl3))) ⟨e_H6, b_H6 _ _ nd (s5 _ _ hdl3), b_H6 _ _ nsl e_H5, keep b_H6 ⟨_, s5 _ _ e_H3, rfl⟩ (hS3.same s5), (hst.mono (.of s_H5)).mono u6, (fun e => by rw [← e, hdl3] at hsl3; cases hsl3), hc, EpM.inv_first hc ?_ ?_, ?_, ?_⟩
    · have := hS.1.2.1
      omega
    · have := hS.1.2.2.2.1
      omega
    · exact List.length_replicate
    · exact List.length_replicate
end
end Ep
namespace Ep
open PySem PySem.Spec L2 EpR
open PyProof.Rows hiding St
section
variable {P : Program} {w : World} {K : PySem.W.Frag} {mg : Str → Option Value} {base : Heap} {a : Ad} {f : Addr} {fd : FuncData}
def spNcall (a : Ad) : Sp := fun vs H Q _ => ∃ (b dx sg dl sl st q : Addr) (g : Cg) (z : EpM.St) (ds xs : List V) (v : EpM.Mv), vs = [.ref b, .ref q] ∧ NAt a H b dx sg dl sl st g z ds xs ∧ MvAt H q v ∧ v ∈ EpM.moves g.cf z ∧ ds.length ≤ 900 ∧ xs.length ≤ 900 ∧
  ∀ st' H', SameX dl sl H H' → NAt a H' b dx sg dl sl st' g (EpM.step g.cf z v) (ds ++ [.ref q]) (xs ++ [.ref st]) → Q (.ref st') H'
theorem sc_ncall : FnScope ["self", "move", "later"] ["self", "move"] (defScope (inClass (top 61) 1)) := ⟨rfl, rfl, rfl, by decide +kernel, rfl, by decide +kernel, by decide +kernel⟩
theorem ok_ncall (T : TX w K mg a) (c_is_possible : Cal P w K mg base 6 "is_possible" (spPoss a)) (c_step : Cal P w K mg base 7 "step" (spStep a)) (F : FunP K "__call__" "Bench.__call__" (inClass (top 61) 1) [] [] f fd) : FnOk P w K mg base CX0 8 f fd ["self", "move"] (spNcall a) := by
  refine F.ok sc_ncall (fun vs H Q E h => ?_) (fun cdv A outer s H vs Q E hr h => ⟨_, PSs.nox ((pss_cons (ps_if (pt_not (pt_val (pe_c c_is_possible hr (by decide) rfl (pa_cons (pe_fld (pv 0) rfl) (pa_cons (pe_ix ix_list (pe_fld (pv 0) rfl) (pe_un un_neg pe_int) (by intro _ _; rfl)) (pa_cons (pv 1) pa_nil)))))) (pss_one ps_never) pss_nil) (pss_cons (ps_set (i := 2) sc_ncall.nd rfl (by first | exact Or.inl rfl | exact Or.inr rfl) (pe_c c_step hr (by decide) rfl (pa_cons (pe_fld (pv 0) rfl) (pa_cons (pe_ix ix_list (pe_fld (pv 0) rfl) (pe_un un_neg pe_int) (by intro _ _; rfl)) (pa_cons (pv 1) pa_nil))))) (pss_cons (ps_expr (pe_bm PySem.F.plainAttrs_list PySem.F.slot_list_append PySem.F.type_list_append mt_append (pe_fld (pv 0) rfl) (pa_cons (pv 1) pa_nil))) (pss_cons (ps_expr (pe_bm PySem.F.plainAttrs_list PySem.F.slot_list_append PySem.F.type_list_append mt_append (pe_fld (pv 0) rfl) (pa_cons (pv 2) pa_nil))) (pss_one (ps_ret (pv 2)))))))), ?_⟩)
  · obtain ⟨b, dx, sg, dl, sl, st, q, g, z, ds, xs, v, rfl, _⟩ := h
    rfl
  · obtain ⟨b, dx, sg, dl, sl, st, q, g, z, ds, xs, v, rfl, N, hq, hv, hl1, hl2, k⟩ := h
    refine ⟨_, rfl, b, _, dx, _, _, rfl, N.hb, T.clN, T.nNsetting, rfl, _, rfl, b, _, dx, _, _, rfl, N.hb, T.clN, T.nNstates, rfl, _, rfl, sl, _, -1, .ref st, rfl, rfl, sqL_of N.hs, atI_last, _, rfl, sg, st, q, g, z, v, rfl, N.hS, N.hst, N.G, hq, hv, fun H1 s1 => ⟨_, rfl, iteF ?_⟩⟩
    have N1 := N.same s1
    refine ⟨_, rfl, b, _, dx, _, _, rfl, N1.hb, T.clN, T.nNsetting, rfl, _, rfl, b, _, dx, _, _, rfl, N1.hb, T.clN, T.nNstates, rfl, _, rfl, sl, _, -1, .ref st, rfl, rfl, sqL_of N1.hs, atI_last, _, rfl, sg, st, q, g, z, v, rfl, N1.hS, N1.hst, N.G, s1 _ _ hq, hv, fun st' H2 s2 hst' => ?_⟩
    have N2 := N1.same s2
    refine ⟨_, rfl, b, _, dx, _, _, rfl, N2.hb, T.clN, T.nNdone, rfl, .inl ⟨rfl, _, sqL_of N2.hd⟩, _, rfl, dl, ds, _, rfl, rfl, N2.hd, small1000 (by omega), ?_⟩
    generalize h_H3 : upd H2 dl _ = H3
    have u3 : Tups H2 H3 := h_H3 ▸ Tups.upd N2.hd (by intro _ z; cases z)
    have e3 := (congrFun h_H3.symm dl).trans upd_same
    have k3 : ∀ q o, q ≠ dl → H2 q = some o → H3 q = some o := fun q o n e => by rw [← h_H3, upd_ne n]; exact e
    have nb : b ≠ dl := ne_of N2.hb N2.hd (by intro q; cases q)
    have hs3 := k3 _ _ N.n.symm N2.hs
    refine ⟨_, rfl, b, _, dx, _, _, rfl, k3 _ _ nb N2.hb, T.clN, T.nNstates, rfl, .inl ⟨rfl, _, sqL_of hs3⟩, _, rfl, sl, _, _, rfl, rfl, hs3, small1000 (by rw [List.length_append]; show xs.length + 1 ≤ 1000; omega), ?_⟩
    generalize h_H4 : upd H3 sl _ = H4
    have u4 : Tups H3 H4 := h_H4 ▸ Tups.upd hs3 (by intro _ z; cases z)
    have e4 := (congrFun h_H4.symm sl).trans upd_same
    have k4 : ∀ q o, q ≠ sl → H3 q = some o → H4 q = some o := fun q o n e => by rw [← h_H4, upd_ne n]; exact e
    have nb' : b ≠ sl := ne_of N2.hb N2.hs (by intro q; cases q)
    have m24 : SameX dl sl H2 H4 := fun q o n1 n2 e => k4 q o n2 (k3 q o n1 e)
    refine ⟨_, rfl, k st' H4 (fun q o n1 n2 e => m24 q o n1 n2 (s2 _ _ (s1 _ _ e))) ⟨k4 _ _ nb' (k3 _ _ nb N2.hb), k4 _ _ N.n e3, e4, N2.hS.samex m24 N2.hd N2.hs, (hst'.mono u3).mono u4, N.n, N.G.step hv⟩⟩
def spNmoves (a : Ad) : Sp := fun vs H Q _ => ∃ (b dx sg dl sl st : Addr) (g : Cg) (z : EpM.St) (ds xs : List V), vs = [.ref b] ∧ NAt a H b dx sg dl sl st g z ds xs ∧ ∀ l ms H', Same H H' → H l = none → H' l = some (.lst ms) → Mvs H' ms (EpM.moves g.cf z) → Q (.ref l) H'
theorem sc_nmoves : FnScope ["self"] ["self"] (defScope (inClass (top 61) 5)) := ⟨rfl, rfl, rfl, by decide +kernel, rfl, by decide +kernel, by decide +kernel⟩
theorem ok_nmoves (T : TX w K mg a) (c_moves_rules : Cal P w K mg base 5 "moves_rules" (spMvs a)) (F : FunP K "moves" "Bench.moves" (inClass (top 61) 5) [] [] f fd) : FnOk P w K mg base CX0 6 f fd ["self"] (spNmoves a) := by
  refine F.ok sc_nmoves (fun vs H Q E h => ?_) (fun cdv A outer s H vs Q E hr h => ⟨_, PSs.nox ((pss_one (ps_ret (pe_c c_moves_rules hr (by decide) rfl (pa_cons (pe_fld (pv 0) rfl) (pa_cons (pe_ix ix_list (pe_fld (pv 0) rfl) (pe_un un_neg pe_int) (by intro _ _; rfl)) pa_nil)))))), ?_⟩)
  · obtain ⟨b, dx, sg, dl, sl, st, g, z, ds, xs, rfl, _⟩ := h
    rfl
  · obtain ⟨b, dx, sg, dl, sl, st, g, z, ds, xs, rfl, N, k⟩ := h
    exact ⟨_, rfl, b, _, dx, _, _, rfl, N.hb, T.clN, T.nNsetting, rfl, _, rfl, b, _, dx, _, _, rfl, N.hb, T.clN, T.nNstates, rfl, _, rfl, sl, _, -1, .ref st, rfl, rfl, sqL_of N.hs, atI_last, sg, st, g, z, rfl, N.hS, N.hst, N.G, k⟩
def spNunsafe (a : Ad) : Sp := fun vs H Q _ => ∃ (b dx sg dl sl st : Addr) (g : Cg) (z : EpM.St) (ds xs : List V), vs = [.ref b] ∧ NAt a H b dx sg dl sl st g z ds xs ∧ Q .non H
theorem sc_nunsafe : FnScope ["self", "state"] ["self"] (defScope (inClass (top 61) 11)) := ⟨rfl, rfl, rfl, by decide +kernel, rfl, by decide +kernel, by decide +kernel⟩
theorem ok_nunsafe (T : TX w K mg a) (c_is_unsafe : Cal P w K mg base 1 "is_unsafe" spUns) (F : FunP K "unsafe" "Bench.unsafe" (inClass (top 61) 11) [] [] f fd) : FnOk P w K mg base CX0 2 f fd ["self"] (spNunsafe a) := by
  refine F.ok sc_nunsafe (fun vs H Q E h => ?_) (fun cdv A outer s H vs Q E hr h => ⟨_, PSs.nox ((pss_cons (ps_set (i := 1) sc_nunsafe.nd rfl (by first | exact Or.inl rfl | exact Or.inr rfl) (pe_ix ix_list (pe_fld (pv 0) rfl) (pe_un un_neg pe_int) (by intro _ _; rfl))) (pss_one (ps_ret (pe_ifExp (pt_val (pe_c c_is_unsafe hr (by decide) rfl (pa_cons (pv 1) pa_nil))) pe_nev pe_non))))), ?_⟩)
  · obtain ⟨b, dx, sg, dl, sl, st, g, z, ds, xs, rfl, _⟩ := h
    rfl
  · obtain ⟨b, dx, sg, dl, sl, st, g, z, ds, xs, rfl, N, k⟩ := h
    exact ⟨_, rfl, b, _, dx, _, _, rfl, N.hb, T.clN, T.nNstates, rfl, _, rfl, sl, _, -1, .ref st, rfl, rfl, sqL_of N.hs, atI_last, _, rfl, st, z, rfl, N.hst, _, rfl, iteF k⟩
end
end Ep
namespace Ep
open PySem PySem.Spec L2 EpR
open PyProof.Rows hiding St
section
variable {P : Program} {w : World} {K : PySem.W.Frag} {mg : Str → Option Value} {base : Heap} {a : Ad} {f : Addr} {fd : FuncData}
def PoolAt (H : Hp) (p : Addr) : Prop := ∃ x y : Int, H p = some (.lst [.int x, .int y]) ∧ 0 ≤ y ∧ y < 2147483647
theorem PoolAt.same {H H' : Hp} {p : Addr} (s : Same H H') (h : PoolAt H p) : PoolAt H' p := let ⟨x, y, h1, h2⟩ := h; ⟨x, y, s _ _ h1, h2⟩
def spPool (K : PySem.W.Frag) : Sp := fun vs H Q _ => ∃ (sa : Addr) (ns : List Int), vs = [.ref sa, .int 0] ∧ SqL K H sa (ns.map V.int) ∧ ∀ p H', Same H H' → H p = none → PoolAt H' p → Q (.ref p) H'
theorem sc_law_pool : FnScope ["_law_script", "_law_k", "_law_cell", "_law_size", "_law_seed"] ["_law_script", "_law_k"] (defScope (top 63)) := ⟨rfl, rfl, rfl, by decide +kernel, rfl, by decide +kernel, by decide +kernel⟩
theorem ok_law_pool (T : TX w K mg a) (F : FunP K "_law_pool" "_law_pool" (top 63) [] [] f fd) : FnOk P w K mg base CX0 1 f fd ["_law_script", "_law_k"] (spPool K) := by
  refine F.ok sc_law_pool (fun vs H Q E h => ?_) (fun cdv A outer s H vs Q E hr h => ⟨_, PSs.nox ((pss_cons (ps_set (i := 2) sc_law_pool.nd rfl (by first | exact Or.inl rfl | exact Or.inr rfl) pe_int) (C8.pss_cut (ps_if (pt_cmpR op_lt (pv 1) (pe_callB call_len_seq (by rfl) T.n_len PySem.boot_len (pa_cons (pv 0) pa_nil)) (nomark _)) (pss_one (ps_set (i := 2) sc_law_pool.nd rfl (by first | exact Or.inl rfl | exact Or.inr rfl) (pe_ix ix_list (pv 0) (pv 1) (by intro _ _; rfl)))) pss_nil) (pss_cons (ps_set (i := 3) sc_law_pool.nd rfl (by first | exact Or.inl rfl | exact Or.inr rfl) (pe_callB (call_max2 rfl) (by rfl) T.n_max boot_max (pa_cons (pv 2) (pa_cons (pe_op op_sub (pe_un un_neg pe_int) (pv 2)) pa_nil)))) (pss_cons (ps_set (i := 4) sc_law_pool.nd rfl (by first | exact Or.inl rfl | exact Or.inr rfl) (pe_callTy call_int1 (by rfl) T.n_int boot_int (pa_cons (pe_op op_add (pe_op op_add (pe_op op_mod (pe_callTy call_int1 (by rfl) T.n_int boot_int (pa_cons (pv 3) pa_nil)) pe_int) (pe_op op_mul pe_int (pv 1))) pe_int) pa_nil))) (pss_one (ps_ret (pe_lst (pa_cons (pe_op op_mul (pv 3) (pe_callTy call_int1 (by rfl) T.n_int boot_int (pa_cons (pe_cmpR op_ge (pv 3) (pe_op op_pow pe_int pe_int) (nomark _)) pa_nil))) (pa_cons (pe_op op_mod (pe_op op_mul (pv 4) pe_int) pe_int) pa_nil)))))))))), ?_⟩)
  · obtain ⟨sa, ns, rfl, _⟩ := h
    rfl
  · obtain ⟨sa, ns, rfl, hS, k⟩ := h
    refine ⟨fun σ' H' => ∃ c : Int, σ' = [some (.ref sa), some (.int 0), some (.int c), none, none] ∧ H' = H, ?_, ?_⟩
    · refine ⟨_, rfl, _, rfl, sa, _, rfl, .inl hS, _, _, rfl, rfl, _, rfl, ?_⟩
      refine ite2D (fun e => ?_) (fun e => ⟨0, rfl, rfl⟩)
      have hl : 0 < ns.length := by
        rw [List.length_map] at e
        omega
      refine ⟨_, rfl, _, rfl, sa, _, 0, .int ns[0], rfl, rfl, hS, atI_nat (i := 0) (by simp [hl]), ns[0], rfl, rfl⟩
    · rintro σ1 H1 ⟨c, rfl, rfl⟩
      refine ⟨_, rfl, _, rfl, _, rfl, _, _, rfl, rfl, _, _, rfl, ?_⟩
      generalize (if -1 - c > c then -1 - c else c) = sz
      refine ⟨_, rfl, .inl ⟨_, rfl, _, _, rfl, rfl, by show (0 : Int) < 2147483629; decide, _, rfl, _, _, rfl, rfl, .inl ⟨by decide, by decide⟩, _, _, rfl, rfl, _, _, rfl, rfl, .inl ⟨_, rfl, ?_⟩⟩⟩
      have hm := Int.emod_lt_of_pos sz (show (0 : Int) < 2147483629 by decide)
      have hm0 := Int.emod_nonneg sz (show (2147483629 : Int) ≠ 0 by decide)
      refine ⟨_, rfl, _, rfl, _, _, rfl, rfl, ⟨by decide, by decide, by decide⟩, _, _, rfl, rfl, .inr ⟨_, rfl, _, _, rfl, rfl, .inr ?_, ?_⟩⟩
      · split <;> constructor <;> decide
      refine ⟨_, rfl, _, _, rfl, rfl, .inr ⟨by decide, by decide⟩, _, _, rfl, rfl, by show (0 : Int) < 2147483647; decide, by show 2 ≤ sizeLine; decide, fun p hp => ?_⟩
      refine k p _ (same_upd hp) hp ⟨_, _, upd_same, Int.emod_nonneg _ (by decide), Int.emod_lt_of_pos _ (by decide)⟩
def spTake : Sp := fun vs H Q _ => ∃ (p : Addr) (m : Int), vs = [.ref p, .int m] ∧ PoolAt H p ∧ 0 < m ∧ m ≤ 1000 ∧ ∀ (r : Int) H', SameB p H H' → PoolAt H' p → 0 ≤ r → r < m → Q (.int r) H'
theorem sc_law_take : FnScope ["_law_pool_here", "_law_many", "_law_found"] ["_law_pool_here", "_law_many"] (defScope (top 64)) := ⟨rfl, rfl, rfl, by decide +kernel, rfl, by decide +kernel, by decide +kernel⟩
theorem ok_law_take (T : TX w K mg a) (F : FunP K "_law_take" "_law_take" (top 64) [] [] f fd) : FnOk P w K mg base CX0 1 f fd ["_law_pool_here", "_law_many"] spTake := by
  refine F.ok sc_law_take (fun vs H Q E h => ?_) (fun cdv A outer s H vs Q E hr h => ⟨_, PSs.nox ((pss_cons (ps_if (pt_cmpR op_gt (pe_ix ix_list (pv 0) pe_int (by intro _ _; rfl)) pe_int (nomark _)) (pss_cons (ps_set (i := 2) sc_law_take.nd rfl (by first | exact Or.inl rfl | exact Or.inr rfl) (pe_op op_mod (pe_callTy call_int1 (by rfl) T.n_int boot_int (pa_cons (pe_ix ix_list (pv 0) pe_int (by intro _ _; rfl)) pa_nil)) (pv 1))) (pss_cons (ps_asg (pe_op op_fdivN (pe_ix ix_list (pv 0) pe_int (by intro _ _; rfl)) (pv 1)) (pg_sub (pv 0) pe_int set_list)) (pss_one (ps_ret (pv 2))))) pss_nil) (pss_cons (ps_asg (pe_op op_mod (pe_callTy call_int1 (by rfl) T.n_int boot_int (pa_cons (pe_op op_add (pe_op op_mul (pe_ix ix_list (pv 0) pe_int (by intro _ _; rfl)) pe_int) pe_int) pa_nil)) pe_int) (pg_sub (pv 0) pe_int set_list)) (pss_one (ps_ret (pe_op op_mod (pe_op op_fdivN (pe_op op_mod (pe_callTy call_int1 (by rfl) T.n_int boot_int (pa_cons (pe_op op_mul (pe_ix ix_list (pv 0) pe_int (by intro _ _; rfl)) (pe_ix ix_list (pv 0) pe_int (by intro _ _; rfl))) pa_nil)) pe_int) pe_int) (pv 1))))))), ?_⟩)
  · obtain ⟨p, m, rfl, _⟩ := h
    rfl
  · obtain ⟨p, m, rfl, ⟨x, y, hp, y0, y1⟩, m0, m1, k⟩ := h
    have e0 : atI ([.int x, .int y] : List V) 0 = some (.int x) := rfl
    have e1 : ∀ (H' : Hp) (u v : Int), atI ([.int u, .int v] : List V) 1 = some (.int v) := fun _ _ _ => rfl
    refine ⟨_, rfl, p, _, 0, _, rfl, rfl, sqL_of hp, e0, _, _, rfl, rfl, _, rfl, ?_⟩
    refine ite2D (fun e => ?_) (fun e => ?_)
    · refine ⟨_, rfl, p, _, 0, _, rfl, rfl, sqL_of hp, e0, .inl ⟨_, rfl, _, rfl, _, _, rfl, rfl, m0, ?_⟩⟩
      refine ⟨_, rfl, p, _, 0, _, rfl, rfl, sqL_of hp, e0, _, rfl, _, _, rfl, rfl, ⟨by omega, by omega⟩, _, rfl, p, _, 0, 0, rfl, rfl, hp, rfl, _, rfl, ?_⟩
      exact k _ _ sameB_upd ⟨_, _, upd_same, y0, y1⟩ (Int.emod_nonneg _ (by omega)) (Int.emod_lt_of_pos _ m0)
    · refine ⟨_, rfl, p, _, 1, _, rfl, rfl, sqL_of hp, rfl, _, _, rfl, rfl, .inr ⟨by decide, by decide⟩, _, _, rfl, rfl, .inl ⟨_, rfl, _, _, rfl, rfl, by show (0 : Int) < 2147483647; decide, _, rfl, p, _, 1, 1, rfl, rfl, hp, rfl, ?_⟩⟩
      have b0 := Int.emod_nonneg (y * 48271 + 11) (show (2147483647 : Int) ≠ 0 by decide)
      have b1 := Int.emod_lt_of_pos (y * 48271 + 11) (show (0 : Int) < 2147483647 by decide)
      refine ⟨_, rfl, p, _, 1, _, rfl, rfl, sqL_of upd_same, rfl, _, rfl, p, _, 1, _, rfl, rfl, sqL_of upd_same, rfl, _, _, rfl, rfl, .inl ⟨by omega, by omega⟩, .inl ⟨_, rfl, _, _, rfl, rfl, by show (0 : Int) < 2147483629; decide, _, _, rfl, rfl, ⟨by decide, by decide⟩, _, rfl, _, _, rfl, rfl, m0, ?_⟩⟩
      exact k _ _ sameB_upd ⟨_, _, upd_same, b0, b1⟩ (Int.emod_nonneg _ (by omega)) (Int.emod_lt_of_pos _ m0)
def spOne : Sp := fun vs H Q _ => ∃ (p l : Addr) (xs : List V), vs = [.ref p, .ref l] ∧ PoolAt H p ∧ H l = some (.lst xs) ∧ l ≠ p ∧ 1 ≤ xs.length ∧ xs.length ≤ 1000 ∧ ∀ v H', SameB p H H' → PoolAt H' p → v ∈ xs → Q v H'
theorem sc_law_one : FnScope ["_law_pool_here", "_law_some"] ["_law_pool_here", "_law_some"] (defScope (top 65)) := ⟨rfl, rfl, rfl, by decide +kernel, rfl, by decide +kernel, by decide +kernel⟩
theorem ok_law_one (T : TX w K mg a) (c__law_take : Cal P w K mg base 1 "_law_take" spTake) (F : FunP K "_law_one" "_law_one" (top 65) [] [] f fd) : FnOk P w K mg base CX0 2 f fd ["_law_pool_here", "_law_some"] spOne := by
  refine F.ok sc_law_one (fun vs H Q E h => ?_) (fun cdv A outer s H vs Q E hr h => ⟨_, PSs.nox ((pss_one (ps_ret (pe_ix ix_list (pv 1) (pe_c c__law_take hr (by decide) rfl (pa_cons (pv 0) (pa_cons (pe_callB call_len_seq (by rfl) T.n_len PySem.boot_len (pa_cons (pv 1) pa_nil)) pa_nil))) (by intro _ _; rfl))))), ?_⟩)
  · obtain ⟨p, l, xs, rfl, _⟩ := h
    rfl
  · obtain ⟨p, l, xs, rfl, hP, hl, n, h1, h2, k⟩ := h
    refine ⟨_, rfl, _, rfl, _, rfl, l, xs, rfl, .inl (sqL_of hl), p, (xs.length : Nat), rfl, hP, by omega, by omega, fun r H1 s1 hP1 r0 r1 => ?_⟩
    have hr1 : r.toNat < xs.length := by omega
    have hg : xs[r.toNat]? = some xs[r.toNat] := by simp [hr1]
    refine ⟨l, xs, r, xs[r.toNat], rfl, rfl, sqL_of (s1 _ _ n hl), ?_, k _ _ s1 hP1 (List.getElem_mem hr1)⟩
    have := atI_nat hg
    rwa [show ((r.toNat : Nat) : Int) = r by omega] at this
def spSw : Sp := fun vs H Q _ => vs = [.str "still"] ∧ ∀ l H', Same H H' → H l = none → H' l = some (.lst words4) → Q (.ref l) H'
theorem sc_law_switches : FnScope ["_law_way"] ["_law_way"] (defScope (top 66)) := ⟨rfl, rfl, rfl, by decide +kernel, rfl, by decide +kernel, by decide +kernel⟩
theorem ok_law_switches (F : FunP K "_law_switches" "_law_switches" (top 66) [] [] f fd) : FnOk P w K mg base CX0 1 f fd ["_law_way"] spSw := by
  refine F.ok sc_law_switches (fun vs H Q E h => ?_) (fun cdv A outer s H vs Q E hr h => ⟨_, PSs.nox ((pss_cons (ps_if (pt_cmpR op_eq (pv 0) pe_str (nomark _)) (pss_one ps_never) pss_nil) (pss_one (ps_ret (pe_ifExp (pt_cmpR op_eq (pv 0) pe_str (nomark _)) pe_nev (pe_lst (pa_cons pe_str (pa_cons pe_str (pa_cons pe_str (pa_cons pe_str pa_nil)))))))))), ?_⟩)
  · obtain ⟨rfl, _⟩ := h
    rfl
  · obtain ⟨rfl, k⟩ := h
    exact ⟨_, rfl, rfl, _, rfl, iteD (by decide +kernel) ⟨_, rfl, rfl, _, rfl, iteD (by decide +kernel) ⟨by show 4 ≤ sizeLine; decide, fun l hl => k l _ (same_upd hl) hl upd_same⟩⟩⟩
end
end Ep
namespace Ep
open PySem PySem.Spec L2 EpR
open PyProof.Rows hiding St
def Bk.i (b : Bk) : Nat → Bk
  | 0 => ⟨b.c, false, true, false⟩
  | 1 => ⟨b.c, false, true, false⟩
  | 2 => ⟨b.c, b.st, true, false⟩
  | 3 => ⟨b.c, b.st, b.rd, false⟩
  | _ => b
theorem put_counts (b : Bk) (v : V) : putK b.kv (.inr "counts") v = [(.inr "counts", v), (.inr "still", b.at .still), (.inr "read", b.at .read), (.inr "sleep", b.at .sleep)] := by rfl
theorem put_still (b : Bk) (v : V) : putK b.kv (.inr "still") v = [(.inr "counts", b.at .counts), (.inr "still", v), (.inr "read", b.at .read), (.inr "sleep", b.at .sleep)] := by rfl
theorem put_read (b : Bk) (v : V) : putK b.kv (.inr "read") v = [(.inr "counts", b.at .counts), (.inr "still", b.at .still), (.inr "read", v), (.inr "sleep", b.at .sleep)] := by rfl
theorem put_sleep (b : Bk) (v : V) : putK b.kv (.inr "sleep") v = [(.inr "counts", b.at .counts), (.inr "still", b.at .still), (.inr "read", b.at .read), (.inr "sleep", v)] := by rfl
theorem put_i {b : Bk} {i : Nat} {x : V} (h : words4[i]? = some x) : ∃ wd : Wd, x = .str wd.s ∧ putK (b.i i).kv (.inr wd.s) (b.at wd) = (b.i (i + 1)).kv := by
  match i, h with
  | 0, h => exact ⟨.counts, (Option.some.inj h).symm, put_counts _ _⟩
  | 1, h => exact ⟨.still, (Option.some.inj h).symm, put_still _ _⟩
  | 2, h => exact ⟨.read, (Option.some.inj h).symm, put_read _ _⟩
  | 3, h => exact ⟨.sleep, (Option.some.inj h).symm, put_sleep _ _⟩
  | (n + 4), h => exact nomatch h
theorem Bk.iok {b : Bk} (h : b.ok) (i : Nat) : (b.i i).ok := by
  match i with
  | 0 | 1 | 2 | 3 => exact h
  | (n + 4) => exact h
def LOwn (H : Hp) (o : Addr) (b : Bk) (hn : Addr) (th : Int) : Prop := ∃ kvs : List (Key × V), H o = some (.dK kvs) ∧ valV kvs (.inr "way") = some (.str "still") ∧ (∀ wd : Wd, valV kvs (.inr wd.s) = some (b.at wd)) ∧ valV kvs (.inr "hands") = some (.ref hn) ∧ valV kvs (.inr "most") = some (.int th)
theorem LOwn.same {H H' : Hp} {o hn : Addr} {b : Bk} {th : Int} (s : Same H H') (h : LOwn H o b hn th) : LOwn H' o b hn th := let ⟨k, h1, h2⟩ := h; ⟨k, s _ _ h1, h2⟩
section
variable {P : Program} {w : World} {K : PySem.W.Frag} {mg : Str → Option Value} {base : Heap} {a : Ad} {f : Addr} {fd : FuncData}
def spMk1 (a : Ad) : Sp := fun vs => spSinit a (vs ++ [.str "outside", .str "behind", .str "none"])
def spBook (a : Ad) : Sp := fun vs H Q _ => ∃ (o hn : Addr) (b : Bk) (th : Int), vs = [.ref o] ∧ LOwn H o b hn th ∧ b.ok ∧ ∀ p H', Same H H' → BookAt a H' p b → Q (.ref p) H'
theorem sc_law_book : FnScope ["_law_own", "_law_book_here", "_law_word"] ["_law_own"] (defScope (top 68)) := ⟨rfl, rfl, rfl, by decide +kernel, rfl, by decide +kernel, by decide +kernel⟩
theorem ok_law_book (c_StillBook : Mak P w K mg base 6 "StillBook" a.CS (spMk1 a)) (c__law_switches : Cal P w K mg base 1 "_law_switches" spSw) (c_setitem : Sti P w K mg base 5 a.CS (spSet a)) (F : FunP K "_law_book" "_law_book" (top 68) [] [] f fd) : FnOk P w K mg base CX0 8 f fd ["_law_own"] (spBook a) := by
  refine F.ok sc_law_book (fun vs H Q E h => ?_) (fun cdv A outer s H vs Q E hr h => ⟨_, PSs.nox ((pss_cons (ps_if (pt_cmpR op_eq (pe_dget (hu_of hr) (pv 0) pe_str (by intro _ _; rfl)) pe_str (nomark _)) (pss_one (ps_set (i := 1) sc_law_book.nd rfl (by first | exact Or.inl rfl | exact Or.inr rfl) pe_nev)) (pss_one (ps_set (i := 1) sc_law_book.nd rfl (by first | exact Or.inl rfl | exact Or.inr rfl) (pe_ifExp (pt_cmpR op_eq (pe_dget (hu_of hr) (pv 0) pe_str (by intro _ _; rfl)) pe_str (nomark _)) pe_nev (pe_k c_StillBook hr (by decide) rfl (pa_cons (pe_dget (hu_of hr) (pv 0) pe_str (by intro _ _; rfl)) pa_nil)))))) (pss_cons (ps_for PassesOwn.never rfl (pi_list (pe_c c__law_switches hr (by decide) rfl (pa_cons (pe_dget (hu_of hr) (pv 0) pe_str (by intro _ _; rfl)) pa_nil))) (pg_name (i := 2) sc_law_book.nd rfl (by first | exact Or.inl rfl | exact Or.inr rfl)) (pss_one (ps_asg (pe_dget (hu_of hr) (pv 0) (pv 2) (by intro _ _; rfl)) (pg_sub (pv 1) (pv 2) (set_s c_setitem hr (by decide)))))) (pss_one (ps_ret (pv 1)))))), ?_⟩)
  · obtain ⟨o, hn, b, th, rfl, _⟩ := h
    rfl
  · obtain ⟨o, hn, b, th, rfl, ⟨kvs, ho, v1, v2, v3, v4⟩, ok, k⟩ := h
    have dg : ∀ {H' : Hp} {y : Str} {v : V}, Same H H' → valV kvs (.inr y) = some v → DGet H' o (.str y) (some v) := fun s e => .inl ⟨_, .inr _, .inl (s _ _ ho), rfl, e.symm⟩
    refine ⟨_, rfl, o, _, rfl, dg (Same.refl _) v1, rfl, _, rfl, iteD (by decide +kernel) ?_⟩
    refine ⟨_, rfl, o, _, rfl, dg (Same.refl _) v1, rfl, _, rfl, iteD (by decide +kernel) ?_⟩
    refine ⟨_, rfl, o, _, rfl, dg (Same.refl _) (v2 .counts), fun x dx hx hdx hne => ?_⟩
    refine ⟨x, dx, b.i 0, rfl, upd_same, ok, fun H1 s1 hb => ⟨rfl, ?_⟩⟩
    have s0 : Same H H1 := fun z u e => s1 z u (ne_of_none e hx) (by rw [upd_ne (ne_of_none e hx), upd_ne (ne_of_none e hdx)]; exact e)
    refine ⟨_, rfl, o, _, rfl, dg s0 v1, rfl, fun l H2 s2 hln hl => ?_⟩
    have s02 := s0.trans s2
    have nlx : l ≠ x := fun e => by
      obtain ⟨_, _, _, _, hx1, _⟩ := hb
      rw [e, hx1] at hln
      cases hln
    refine ⟨l, rfl, ⟨_, sqL_of hl⟩, for_list (K := K) (a := l) (xs := words4) (fun i σ H' => ∃ v, σ = [some (.ref o), some (.ref x), v] ∧ Same H H' ∧ H' l = some (.lst words4) ∧ BookAt a H' x (b.i i)) ⟨_, rfl, s02, hl, hb.same s2⟩ (fun i σ H' _ hP => by obtain ⟨_, _, _, h, _⟩ := hP; exact sqL_of h) ?_ ?_⟩
    · rintro i y σ H' hy ⟨v, rfl, s3, hl3, hb3⟩
      obtain ⟨wd, rfl, hput⟩ := put_i (b := b) hy
      obtain ⟨_, dx3, od3, ol3, hx3, hd3⟩ := id hb3
      exact ⟨_, rfl, _, rfl, o, _, rfl, dg s3 (v2 wd), _, rfl, _, rfl, x, dx3, _, rfl, hx3, x, b.i i, b.i (i + 1), wd, b.at wd, rfl, hb3, Bk.iok ok (i + 1), hput, fun H4 s4 hb4 => ⟨_, rfl, s4.same0 s3 hx, s4 _ _ nlx hl3, hb4⟩⟩
    · rintro σ H' ⟨v, rfl, s3, hl3, hb3⟩
      exact ⟨_, rfl, k x H' s3 hb3⟩
def spSetting (a : Ad) : Sp := fun vs H Q _ => ∃ (o hn : Addr) (g : Cg), vs = [.ref o] ∧ LOwn H o g.b hn g.th ∧ H hn = some (.tup [.int g.r, .int g.t, .int 0]) ∧ g.ok ∧ ∀ s H', Same H H' → H s = none → SetAt a H' s g → Q (.ref s) H'
theorem sc_law_setting : FnScope ["_law_own"] ["_law_own"] (defScope (top 69)) := ⟨rfl, rfl, rfl, by decide +kernel, rfl, by decide +kernel, by decide +kernel⟩
theorem ok_law_setting (c_SettingK : MaN P w K mg base 9 "Setting" a.CT 4 ["things"] (spTinit a)) (c__law_book : Cal P w K mg base 8 "_law_book" (spBook a)) (F : FunP K "_law_setting" "_law_setting" (top 69) [] [] f fd) : FnOk P w K mg base CX0 11 f fd ["_law_own"] (spSetting a) := by
  refine F.ok sc_law_setting (fun vs H Q E h => ?_) (fun cdv A outer s H vs Q E hr h => ⟨_, PSs.nox ((pss_one (ps_ret (pe_kn c_SettingK hr (by decide) rfl (pa_cons (pe_c c__law_book hr (by decide) rfl (pa_cons (pv 0) pa_nil)) (pa_cons (pe_ix ix_tup (pe_dget (hu_of hr) (pv 0) pe_str (by intro _ _; rfl)) pe_int (by intro _ _; rfl)) (pa_cons (pe_ix ix_tup (pe_dget (hu_of hr) (pv 0) pe_str (by intro _ _; rfl)) pe_int (by intro _ _; rfl)) (pa_cons (pe_ix ix_tup (pe_dget (hu_of hr) (pv 0) pe_str (by intro _ _; rfl)) pe_int (by intro _ _; rfl)) pa_nil)))) (pk_cons (pe_dget (hu_of hr) (pv 0) pe_str (by intro _ _; rfl)) pk_nil))))), ?_⟩)
  · obtain ⟨o, hn, g, rfl, _⟩ := h
    rfl
  · obtain ⟨o, hn, g, rfl, hL, hh, okg, k⟩ := h
    obtain ⟨kvs, ho, v1, v2, v3, v4⟩ := id hL
    have dg : ∀ {H' : Hp} {y : Str} {v : V}, Same H H' → valV kvs (.inr y) = some v → DGet H' o (.str y) (some v) := fun s e => .inl ⟨_, .inr _, .inl (s _ _ ho), rfl, e.symm⟩
    refine ⟨_, rfl, o, hn, g.b, g.th, rfl, hL, okg.1, fun p H1 s1 hb => ?_⟩
    have hh1 := sqT_of (K := K) (s1 _ _ hh)
    refine ⟨_, rfl, o, _, rfl, dg s1 v3, hn, _, 0, _, rfl, rfl, hh1, rfl, _, rfl, o, _, rfl, dg s1 v3, hn, _, 1, _, rfl, rfl, hh1, rfl, _, rfl, o, _, rfl, dg s1 v3, hn, _, 2, _, rfl, rfl, hh1, rfl, _, rfl, o, _, rfl, dg s1 v4, rfl, rfl, fun x dx hx hdx hne => ?_⟩
    have s0 : Same H1 (upd (upd H1 dx (.own x)) x (.ins a.CT dx [])) := fun z u e => by
      rw [upd_ne (ne_of_none e hx), upd_ne (ne_of_none e hdx)]
      exact e
    obtain ⟨_, dz, od, ol, hp, _⟩ := id hb
    refine ⟨x, p, dx, g, rfl, upd_same, hb.same s0, okg, ne_of_none hp hx, fun H2 s2 hS => ⟨rfl, ?_⟩⟩
    exact k x H2 (s2.same0 (s1.trans s0) (s1.free hx)) (s1.free hx) hS
end
end Ep
namespace Ep
open PySem PySem.Spec L2 EpR
open PyProof.Rows hiding St
theorem vput_ne {kvs : List (Key × V)} {j k : Str} {v : V} (h : j ≠ k) : valV (putK kvs (.inr k) v) (.inr j) = valV kvs (.inr j) := by
  rw [valV_put, if_neg (fun e => h (Sum.inr.inj e))]
theorem vput_eq {kvs : List (Key × V)} {k : Str} {v : V} : valV (putK kvs (.inr k) v) (.inr k) = some v := by
  rw [valV_put, if_pos rfl]
theorem putK_le (kvs : List (Key × V)) (k : Key) (v : V) : (putK kvs k v).length ≤ kvs.length + 1 := by
  unfold putK
  split <;> simp
structure OwnM (H H' : Hp) (p q : Addr) (kvs : List (Key × V)) (n : Nat) : Prop where
  same : SameB p H H'
  pool : PoolAt H' p
  q0 : H q = none
  hq : H' q = some (.dK kvs)
  len : kvs.length ≤ n
  npq : q ≠ p
  way : valV kvs (.inr "way") = some (.str "still")
section
variable {H H1 H2 : Hp} {p q : Addr} {kvs : List (Key × V)} {n : Nat}
theorem OwnM.upd1 {k : Str} {v : V} (M : OwnM H H1 p q kvs n) (hk : "way" ≠ k) : OwnM H (upd H1 q (.dK (putK kvs (.inr k) v))) p q (putK kvs (.inr k) v) (n + 1) := by
  refine ⟨fun b o nb e => ?_, ?_, M.q0, upd_same, Nat.le_trans (putK_le _ _ _) (Nat.succ_le_succ M.len), M.npq, (vput_ne hk).trans M.way⟩
  · rw [upd_ne (fun z => by rw [z, M.q0] at e; cases e)]
    exact M.same b o nb e
  · obtain ⟨x, y, h1, h2⟩ := M.pool
    exact ⟨x, y, (upd_ne M.npq.symm).trans h1, h2⟩
theorem OwnM.mono (M : OwnM H H1 p q kvs n) (s : SameB p H1 H2) (hP : PoolAt H2 p) : OwnM H H2 p q kvs n := ⟨M.same.trans s, hP, M.q0, s _ _ M.npq M.hq, M.len, M.npq, M.way⟩
theorem OwnM.same' (M : OwnM H H1 p q kvs n) (s : Same H1 H2) : OwnM H H2 p q kvs n := M.mono (SameB.of s) (M.pool.same s)
theorem OwnM.get (M : OwnM H H1 p q kvs n) {y : Str} {v : V} (e : valV kvs (.inr y) = some v) : DGet H1 q (.str y) (some v) := .inl ⟨_, .inr _, .inl M.hq, rfl, e.symm⟩
theorem OwnM.put (M : OwnM H H1 p q kvs n) (hn : n ≤ 100) (y : Str) (v : V) : DPut H1 q (.str y) v (upd H1 q (.dK (putK kvs (.inr y) v))) := DPut.k (k := .inr y) M.hq (small1000 (Nat.le_trans M.len (Nat.le_trans hn (by decide))))
end
section
variable {P : Program} {w : World} {K : PySem.W.Frag} {mg : Str → Option Value} {base : Heap} {a : Ad} {f : Addr} {fd : FuncData}
def spSafeOwn : Sp := fun vs H Q _ => ∃ p : Addr, vs = [.ref p] ∧ PoolAt H p ∧ ∀ (o hn : Addr) (g : Cg) H', SameB p H H' → LOwn H' o g.b hn g.th → H' hn = some (.tup [.int g.r, .int g.t, .int 0]) → g.ok → g.b.safe → Q (.ref o) H'
theorem sc_law_safe_own : FnScope ["_law_pool_here", "_law_own"] ["_law_pool_here"] (defScope (top 70)) := ⟨rfl, rfl, rfl, by decide +kernel, rfl, by decide +kernel, by decide +kernel⟩
theorem ok_law_safe_own (c__law_take : Cal P w K mg base 1 "_law_take" spTake) (c__law_one : Cal P w K mg base 2 "_law_one" spOne) (F : FunP K "_law_safe_own" "_law_safe_own" (top 70) [] [] f fd) : FnOk P w K mg base CX0 3 f fd ["_law_pool_here"] spSafeOwn := by
  refine F.ok sc_law_safe_own (fun vs H Q E h => ?_) (fun cdv A outer s H vs Q E hr h => ⟨_, PSs.nox ((C8.pss_cut (ps_set (i := 1) sc_law_safe_own.nd rfl (by first | exact Or.inl rfl | exact Or.inr rfl) (pe_disp (pps_cons pe_str pe_str (pps_cons pe_str (pe_op op_add pe_int (pe_c c__law_take hr (by decide) rfl (pa_cons (pv 0) (pa_cons pe_int pa_nil)))) (pps_cons pe_str (pe_c c__law_one hr (by decide) rfl (pa_cons (pv 0) (pa_cons (pe_lst (pa_cons pe_str (pa_cons pe_str pa_nil))) pa_nil))) pps_nil))) rfl rfl (by simp) (by decide))) (C8.pss_cut (ps_asg (pe_tup (pa_cons pe_str (pa_cons pe_str pa_nil))) (pg_tup rfl (pgs_cons (pg_sub (pv 1) pe_str (set_dict (hu_of hr))) (pgs_cons (pg_sub (pv 1) pe_str (set_dict (hu_of hr))) pgs_nil)))) (C8.pss_cut (ps_if (pt_cmpR op_eq (pe_dget (hu_of hr) (pv 1) pe_str (by intro _ _; rfl)) pe_int (nomark _)) (pss_one (ps_asg (pe_tup (pa_cons (pe_c c__law_one hr (by decide) rfl (pa_cons (pv 0) (pa_cons (pe_lst (pa_cons pe_str (pa_cons pe_str pa_nil))) pa_nil))) (pa_cons (pe_c c__law_one hr (by decide) rfl (pa_cons (pv 0) (pa_cons (pe_lst (pa_cons pe_str (pa_cons pe_str pa_nil))) pa_nil))) pa_nil))) (pg_tup rfl (pgs_cons (pg_sub (pv 1) pe_str (set_dict (hu_of hr))) (pgs_cons (pg_sub (pv 1) pe_str (set_dict (hu_of hr))) pgs_nil))))) pss_nil) (C8.pss_cut (ps_asg (pe_tup (pa_cons (pe_op op_add pe_int (pe_c c__law_take hr (by decide) rfl (pa_cons (pv 0) (pa_cons pe_int pa_nil)))) (pa_cons (pe_op op_add pe_int (pe_c c__law_take hr (by decide) rfl (pa_cons (pv 0) (pa_cons pe_int pa_nil)))) (pa_cons pe_int pa_nil)))) (pg_sub (pv 1) pe_str (set_dict (hu_of hr)))) (C8.pss_cut (ps_asg (pe_op op_add pe_int (pe_c c__law_take hr (by decide) rfl (pa_cons (pv 0) (pa_cons pe_int pa_nil)))) (pg_sub (pv 1) pe_str (set_dict (hu_of hr)))) (pss_one (ps_ret (pv 1))))))))), ?_⟩)
  · obtain ⟨p, rfl, _⟩ := h
    rfl
  · obtain ⟨p, rfl, hP, k⟩ := h
    refine ⟨fun σ' H' => ∃ (q : Addr) (kvs : List (Key × V)) (c : Int) (sl : Bool), σ' = [some (.ref p), some (.ref q)] ∧ OwnM H H' p q kvs 3 ∧ 1 ≤ c ∧ c ≤ 4 ∧ valV kvs (.inr "counts") = some (.int c) ∧ valV kvs (.inr "sleep") = some (.str (slS sl)), ?_, ?_⟩
    · intro q hq
      have hpn : q ≠ p := fun e => by
        obtain ⟨x, y, h1, _⟩ := hP
        rw [e, h1] at hq
        cases hq
      generalize h_H1 : upd H q _ = H1
      have s_H1 : Same H H1 := h_H1 ▸ same_upd hq
      have e_H1 := (congrFun h_H1.symm q).trans upd_same
      refine ⟨_, rfl, p, 4, rfl, hP.same s_H1, by decide, by decide, fun r H2 s2 hP2 r0 r1 => ⟨_, _, rfl, rfl, ?_⟩⟩
      have hq2 := s2 _ _ hpn e_H1
      refine ⟨_, rfl, by show 2 ≤ sizeLine; decide, fun l hl => ?_⟩
      generalize h_H3 : upd H2 l _ = H3
      have s_H3 : Same H2 H3 := h_H3 ▸ same_upd hl
      have e_H3 := (congrFun h_H3.symm l).trans upd_same
      have nlp : l ≠ p := fun e => by
        obtain ⟨x, y, h1, _⟩ := hP2
        rw [e, h1] at hl
        cases hl
      refine ⟨p, l, _, rfl, hP2.same s_H3, e_H3, nlp, by decide, by decide, fun v H4 s4 hP4 hv => ?_⟩
      have hq4 := s4 _ _ hpn (s_H3 _ _ hq2)
      have sA : SameB p H H4 := (SameB.of s_H1).trans (s2.trans ((SameB.of s_H3).trans s4))
      obtain ⟨sl, rfl⟩ : ∃ sl, v = .str (slS sl) := by
        simp only [List.mem_cons, List.mem_nil_iff, or_false] at hv
        rcases hv with rfl | rfl
        · exact ⟨false, rfl⟩
        · exact ⟨true, rfl⟩
      refine ⟨hq4, [(.inr "way", .str "still"), (.inr "counts", .int (1 + r)), (.inr "sleep", .str (slS sl))], rfl, by show 3 ≤ 15; decide, ?_⟩
      refine ⟨q, putK (putK (putK [] (.inr "way") (.str "still")) (.inr "counts") (.int (1 + r))) (.inr "sleep") (.str (slS sl)), 1 + r, sl, rfl, ⟨fun b o nb e => ?_, ?_, hq, upd_same, ?_, hpn, ?_⟩, by omega, by omega, ?_, vput_eq⟩
      · rw [upd_ne (fun z => by rw [z, hq] at e; cases e)]
        exact sA b o nb e
      · obtain ⟨x, y, h1, h2⟩ := hP4
        exact ⟨x, y, (upd_ne hpn.symm).trans h1, h2⟩
      · exact Nat.le_trans (putK_le _ _ _) (Nat.succ_le_succ (Nat.le_trans (putK_le _ _ _) (Nat.succ_le_succ (putK_le [] _ _))))
      · exact (vput_ne (by decide +kernel)).trans ((vput_ne (by decide +kernel)).trans vput_eq)
      · exact (vput_ne (by decide +kernel)).trans vput_eq
    · rintro σ1 H1 ⟨q, kvs, c, sl, rfl, M, c1, c4, vc, vs⟩
      refine ⟨fun σ' H' => ∃ (kvs : List (Key × V)), σ' = [some (.ref p), some (.ref q)] ∧ OwnM H H' p q kvs 5 ∧ valV kvs (.inr "counts") = some (.int c) ∧ valV kvs (.inr "sleep") = some (.str (slS sl)) ∧ valV kvs (.inr "still") = some (.str "outside") ∧ valV kvs (.inr "read") = some (.str "behind"), ?_, ?_⟩
      · refine ⟨by show 2 ≤ sizeLine; decide, fun t ht => ?_⟩
        generalize h_H2 : upd H1 t _ = H2
        have s_H2 : Same H1 H2 := h_H2 ▸ same_upd ht
        have e_H2 := (congrFun h_H2.symm t).trans upd_same
        have M2 := M.same' s_H2
        have M3 := M2.upd1 (k := "still") (v := .str "outside") (by decide +kernel)
        have M4 := M3.upd1 (k := "read") (v := .str "behind") (by decide +kernel)
        exact ⟨t, _, rfl, sqT_of e_H2, rfl, _, _, rfl, _, rfl, q, _, rfl, M2.put (by decide) _ _, _, _, rfl, _, rfl, q, _, rfl, M3.put (by decide) _ _, rfl, _, rfl, M4, (vput_ne (by decide +kernel)).trans ((vput_ne (by decide +kernel)).trans vc), (vput_ne (by decide +kernel)).trans ((vput_ne (by decide +kernel)).trans vs), (vput_ne (by decide +kernel)).trans vput_eq, vput_eq⟩
      · clear M vc vs kvs
        rintro σ2 H2 ⟨kvs, rfl, M, vc, vs, vt, vr⟩
        refine ⟨fun σ' H' => ∃ (kvs : List (Key × V)) (b : Bk), σ' = [some (.ref p), some (.ref q)] ∧ OwnM H H' p q kvs 7 ∧ b.ok ∧ b.safe ∧ ∀ wd : Wd, valV kvs (.inr wd.s) = some (b.at wd), ?_, ?_⟩
        · refine ⟨_, rfl, q, .int c, rfl, M.get vc, rfl, _, rfl, ?_⟩
          refine ite2D (fun e => ?_) (fun e => ?_)
          · have ec : c = 1 := V.int.inj e
            refine ⟨_, rfl, by show 2 ≤ sizeLine; decide, fun l1 hl1 => ?_⟩
            generalize h_H3 : upd H2 l1 _ = H3
            have s_H3 : Same H2 H3 := h_H3 ▸ same_upd hl1
            have e_H3 := (congrFun h_H3.symm l1).trans upd_same
            have M3 := M.same' s_H3
            have ne1 : l1 ≠ p := fun z => by
              obtain ⟨x, y, h1, _⟩ := M.pool
              rw [z, h1] at hl1
              cases hl1
            refine ⟨p, l1, _, rfl, M3.pool, e_H3, ne1, by decide, by decide, fun v1 H4 s4 hP4 hv1 => ?_⟩
            have M4 := M3.mono s4 hP4
            refine ⟨_, rfl, by show 2 ≤ sizeLine; decide, fun l2 hl2 => ?_⟩
            generalize h_H5 : upd H4 l2 _ = H5
            have s_H5 : Same H4 H5 := h_H5 ▸ same_upd hl2
            have e_H5 := (congrFun h_H5.symm l2).trans upd_same
            have M5 := M4.same' s_H5
            have ne2 : l2 ≠ p := fun z => by
              obtain ⟨x, y, h1, _⟩ := M4.pool
              rw [z, h1] at hl2
              cases hl2
            refine ⟨p, l2, _, rfl, M5.pool, e_H5, ne2, by decide, by decide, fun v2 H6 s6 hP6 hv2 => ?_⟩
            have M6 := M5.mono s6 hP6
            refine ⟨by show 2 ≤ sizeLine; decide, fun t ht => ?_⟩
            generalize h_H7 : upd H6 t _ = H7
            have s_H7 : Same H6 H7 := h_H7 ▸ same_upd ht
            have e_H7 := (congrFun h_H7.symm t).trans upd_same
            have M7 := M6.same' s_H7
            have M8 := M7.upd1 (k := "still") (v := v1) (by decide +kernel)
            have M9 := M8.upd1 (k := "read") (v := v2) (by decide +kernel)
            obtain ⟨st, rfl⟩ : ∃ st, v1 = .str (stS st) := by
              simp only [List.mem_cons, List.mem_nil_iff, or_false] at hv1
              rcases hv1 with rfl | rfl
              · exact ⟨true, rfl⟩
              · exact ⟨false, rfl⟩
            obtain ⟨rd, rfl⟩ : ∃ rd, v2 = .str (rdS rd) := by
              simp only [List.mem_cons, List.mem_nil_iff, or_false] at hv2
              rcases hv2 with rfl | rfl
              · exact ⟨false, rfl⟩
              · exact ⟨true, rfl⟩
            refine ⟨t, _, rfl, sqT_of e_H7, rfl, _, _, rfl, _, rfl, q, _, rfl, M7.put (by decide) _ _, _, _, rfl, _, rfl, q, _, rfl, M8.put (by decide) _ _, rfl, _, ⟨c, st, rd, sl⟩, rfl, M9, ⟨c1, c4⟩, .inl ec, fun wd => ?_⟩
            cases wd
            · exact (vput_ne (by decide +kernel)).trans ((vput_ne (by decide +kernel)).trans vc)
            · exact (vput_ne (by decide +kernel)).trans vput_eq
            · exact vput_eq
            · exact (vput_ne (by decide +kernel)).trans ((vput_ne (by decide +kernel)).trans vs)
          · refine ⟨_, ⟨c, false, true, sl⟩, rfl, ⟨M.same, M.pool, M.q0, M.hq, Nat.le_trans M.len (by decide), M.npq, M.way⟩, ⟨c1, c4⟩, .inr ⟨rfl, rfl⟩, fun wd => ?_⟩
            cases wd
            · exact vc
            · exact vt
            · exact vr
            · exact vs
        · clear M vc vs vt vr kvs
          rintro σ3 H3 ⟨kvs, b, rfl, M, ok, sf, vw⟩
          refine ⟨fun σ' H' => ∃ (kvs : List (Key × V)) (hn : Addr) (r t : Int), σ' = [some (.ref p), some (.ref q)] ∧ OwnM H H' p q kvs 8 ∧ (∀ wd : Wd, valV kvs (.inr wd.s) = some (b.at wd)) ∧ valV kvs (.inr "hands") = some (.ref hn) ∧ H' hn = some (.tup [.int r, .int t, .int 0]) ∧ 1 ≤ r ∧ r ≤ 3 ∧ 1 ≤ t ∧ t ≤ 2, ?_, ?_⟩
          · refine ⟨_, rfl, p, 3, rfl, M.pool, by decide, by decide, fun r H4 s4 hP4 r0 r1 => ⟨_, _, rfl, rfl, ?_⟩⟩
            have M4 := M.mono s4 hP4
            refine ⟨_, rfl, p, 2, rfl, M4.pool, by decide, by decide, fun t H5 s5 hP5 t0 t1 => ⟨_, _, rfl, rfl, by show 3 ≤ sizeLine; decide, fun hn hhn => ?_⟩⟩
            have M5 := M4.mono s5 hP5
            generalize h_H6 : upd H5 hn _ = H6
            have s_H6 : Same H5 H6 := h_H6 ▸ same_upd hhn
            have e_H6 := (congrFun h_H6.symm hn).trans upd_same
            have M6 := M5.same' s_H6
            have M7 := M6.upd1 (k := "hands") (v := .ref hn) (by decide +kernel)
            refine ⟨_, rfl, q, _, rfl, M6.put (by decide) _ _, _, hn, 1 + r, 1 + t, rfl, M7, fun wd => ?_, vput_eq, (upd_ne (ne_of e_H6 M6.hq (by intro z; cases z))).trans e_H6, by omega, by omega, by omega, by omega⟩
            exact (vput_ne (by cases wd <;> decide +kernel)).trans (vw wd)
          · clear M vw kvs
            rintro σ4 H4 ⟨kvs, hn, r, t, rfl, M, vw, vh, hh, r1, r3, t1, t2⟩
            refine ⟨fun σ' H' => ∃ (kvs : List (Key × V)) (th : Int), σ' = [some (.ref p), some (.ref q)] ∧ OwnM H H' p q kvs 9 ∧ (∀ wd : Wd, valV kvs (.inr wd.s) = some (b.at wd)) ∧ valV kvs (.inr "hands") = some (.ref hn) ∧ H' hn = some (.tup [.int r, .int t, .int 0]) ∧ valV kvs (.inr "most") = some (.int th) ∧ 1 ≤ th ∧ th ≤ 40, ?_, ?_⟩
            · refine ⟨_, rfl, p, 40, rfl, M.pool, by decide, by decide, fun th H5 s5 hP5 h0 h1 => ⟨_, _, rfl, rfl, ?_⟩⟩
              have M5 := M.mono s5 hP5
              have M6 := M5.upd1 (k := "most") (v := .int (1 + th)) (by decide +kernel)
              have nhp : hn ≠ p := fun z => by
                obtain ⟨x, y, h1, _⟩ := M.pool
                rw [z, h1] at hh
                cases hh
              refine ⟨_, rfl, q, _, rfl, M5.put (by decide) _ _, _, 1 + th, rfl, M6, fun wd => ?_, (vput_ne (by decide +kernel)).trans vh, (upd_ne (ne_of (s5 _ _ nhp hh) M5.hq (by intro z; cases z))).trans (s5 _ _ nhp hh), vput_eq, by omega, by omega⟩
              exact (vput_ne (by cases wd <;> decide +kernel)).trans (vw wd)
            · clear M vw vh hh kvs
              rintro σ5 H5 ⟨kvs, th, rfl, M, vw, vh, hh, vm, h1, h2⟩
              exact ⟨_, rfl, k q hn ⟨b, r, t, th⟩ H5 M.same ⟨kvs, M.hq, M.way, vw, vh, vm⟩ hh ⟨ok, r1, r3, t1, t2, h1, h2⟩ sf⟩
end
end Ep
namespace Ep
open PySem PySem.Spec L2 EpR
open PyProof.Rows hiding St
theorem ints_dp {K : PySem.W.Frag} {H : Hp} : ∀ ns : List Int, DpAll K H (ns.map V.int) (ns.map PyData.int)
  | [] => .nil
  | n :: ns => .cons (.int n) (ints_dp ns)
theorem ints_lay : ∀ ns : List Int, PyData.canLayAll0 (ns.map PyData.int) = true
  | [] => rfl
  | n :: ns => by
    show (true && PyData.canLayAll0 (ns.map PyData.int)) = true
    rw [ints_lay ns]
    rfl
theorem ints_depth : ∀ ns : List Int, PyData.depthAll (ns.map PyData.int) = 0
  | [] => rfl
  | n :: ns => by
    show max 0 (PyData.depthAll (ns.map PyData.int)) = 0
    rw [ints_depth ns]
    rfl
theorem ints_shaped (ns : List Int) : SeqAt.shaped (.list (ns.map PyData.int)) = true := by
  unfold SeqAt.shaped
  have h1 : (PyData.list (ns.map PyData.int)).canLay0 = true := ints_lay ns
  have h2 : (PyData.list (ns.map PyData.int)).depth ≤ 64 := by
    show PyData.depthAll (ns.map PyData.int) + 1 ≤ 64
    rw [ints_depth]
    decide
  rw [h1, decide_eq_true h2]
  rfl
theorem rg_ints (n : Int) : rgV 0 n = (EpM.rangeI n).map V.int := by
  unfold rgV EpM.rangeI
  rw [List.map_map, Int.sub_zero]
  refine List.map_congr_left fun i _ => ?_
  show V.int (0 + (i : Int)) = V.int (i : Int)
  rw [Int.zero_add]
theorem rangeI_sorted (n : Int) : (EpM.rangeI n).Pairwise (· ≤ ·) := by
  unfold EpM.rangeI
  rw [List.pairwise_map]
  exact List.pairwise_le_range.imp fun h => Int.ofNat_le.mpr h
theorem sorted_range {ns : List Int} {n : Int} (h1 : ns.Perm (EpM.rangeI n)) (h2 : ns.Pairwise (· ≤ ·)) : ns = EpM.rangeI n :=
  h1.eq_of_pairwise (fun _ _ _ _ a b => Int.le_antisymm a b) h2 (rangeI_sorted n)
section
variable {P : Program} {w : World} {K : PySem.W.Frag} {mg : Str → Option Value} {base : Heap} {a : Ad} {f : Addr} {fd : FuncData}
def spHolds (a : Ad) : Sp := fun vs H Q _ => ∃ (b dx sg dl sl st0 st : Addr) (g : Cg) (z : EpM.St) (ds xs : List V), vs = [.ref b, .ref st] ∧ NAt a H b dx sg dl sl st0 g z ds xs ∧ StateAt H st z ∧ ∀ H', Same H H' → Q (.bl true) H'
theorem sc_law_holds : FnScope ["_law_bench", "_law_state", "_law_place", "_law_readers", "_law_takers", "_law_freed", "_law_reader", "_law_thing", "_law_waiting", "_law_taker"] ["_law_bench", "_law_state"] (defScope (top 71)) := ⟨rfl, rfl, rfl, by decide +kernel, rfl, by decide +kernel, by decide +kernel⟩
theorem ok_law_holds (T : TX w K mg a) (p_unsafe : Prp P w K mg base 2 a.CN "unsafe" (spNunsafe a)) (F : FunP K "_law_holds" "_law_holds" (top 71) [] [] f fd) : FnOk P w K mg base CX0 4 f fd ["_law_bench", "_law_state"] (spHolds a) := by
  refine F.ok sc_law_holds (fun vs H Q E h => ?_) (fun cdv A outer s H vs Q E hr h => ⟨_, PSs.nox ((pss_cons (ps_if (pw_or (pt_cmpR op_notN (pe_p p_unsafe hr (by decide) (pv 0)) pe_non (nomark _)) (pw_or (pt_not (pt_val (pe_callB call_isi (by rfl) T.n_isinstance boot_isinstance (pa_cons (pv 1) (pa_cons (pe_bltn (v := .ty "tuple") (by rfl) T.n_tuple boot_tuple rfl) pa_nil))))) (pw_or (pt_cmpR op_ne (pe_callB call_len_seq (by rfl) T.n_len PySem.boot_len (pa_cons (pv 1) pa_nil)) pe_int (nomark _)) (pw_or1 (pt_cmpR op_eq (pe_ix ix_tup (pv 1) pe_int (by intro _ _; rfl)) pe_str (nomark _)))))).pt (pss_one (ps_ret pe_bl)) pss_nil) (pss_cons (ps_asg (pv 1) (pg_tup rfl (pgs_cons (pg_name (i := 2) sc_law_holds.nd rfl (by first | exact Or.inl rfl | exact Or.inr rfl)) (pgs_cons (pg_name (i := 3) sc_law_holds.nd rfl (by first | exact Or.inl rfl | exact Or.inr rfl)) (pgs_cons (pg_name (i := 4) sc_law_holds.nd rfl (by first | exact Or.inl rfl | exact Or.inr rfl)) (pgs_cons (pg_name (i := 5) sc_law_holds.nd rfl (by first | exact Or.inl rfl | exact Or.inr rfl)) pgs_nil)))))) (pss_cons (ps_for PassesOwn.never rfl (pi_tup (pv 3)) (pg_name (i := 6) sc_law_holds.nd rfl (by first | exact Or.inl rfl | exact Or.inr rfl)) (pss_one (ps_if (pw_and (pt_cmpR op_eq (pe_ix ix_tup (pv 6) pe_int (by intro _ _; rfl)) pe_str (nomark _)) (pw_and1 (pt_cmpR (op_neD hr.units) (pe_lc (own := [("_law_thing", 7)]) rfl sc_law_holds.nd (pi_tup (pv 5)) (blkOk_by (by first | rfl | kernel_rfl)) (fun _ _ _ _ _ => (pg_name (i := 7) sc_law_holds.nd rfl (by first | exact Or.inl rfl | exact Or.inr rfl))) (fun _ _ _ _ _ => (pts_one (pt_cmpR op_ge (pv 7) (pe_ix (r := rIxT K) ix_tup (pv 6) pe_int (by intro _ _; rfl)) (nomark _)))) (fun _ _ _ _ _ => (pv 7))) (pe_lst pa_nil) (nomark _)))).pt (pss_one (ps_ret pe_bl)) pss_nil))) (pss_cons (ps_set (i := 8) sc_law_holds.nd rfl (by first | exact Or.inl rfl | exact Or.inr rfl) (pe_op op_cat (pe_callTy call_list_of (by rfl) T.n_list boot_list (pa_cons (pv 5) pa_nil)) (pe_lc (own := [("_law_taker", 9)]) rfl sc_law_holds.nd (pi_tup (pv 4)) (blkOk_by (by first | rfl | kernel_rfl)) (fun _ _ _ _ _ => (pg_name (i := 9) sc_law_holds.nd rfl (by first | exact Or.inl rfl | exact Or.inr rfl))) (fun _ _ _ _ _ => (pts_one (pt_cmpR op_notN (pe_ix (r := rIxT K) ix_tup (pv 9) pe_int (by intro _ _; rfl)) pe_non (nomark _)))) (fun _ _ _ _ _ => (pe_ix (r := rIxT K) ix_tup (pv 9) pe_int (by intro _ _; rfl)))))) (pss_one (ps_ret (pe_cmpR (op_eqD hr.units) (pe_callBK (cr_sortedKeyInt (hr.units)) (by rfl) T.n_sorted boot_sorted (pa_cons (pv 8) pa_nil) (pk_cons (pe_bltn (v := .ty "int") (by rfl) T.n_int boot_int rfl) pk_nil)) (pe_listRg rfl rfl T.n_list (prg_1 (by rfl) T.n_range (pv 2))) (nomark _))))))))), ?_⟩)
  · obtain ⟨b, dx, sg, dl, sl, st0, st, g, z, ds, xs, rfl, _⟩ := h
    rfl
  · obtain ⟨b, dx, sg, dl, sl, st0, st, g, z, ds0, xs0, rfl, N, ⟨rt, tt, ft, xs, ys, fs, h1, h2, h3, h4, h5, h6, h7⟩, k⟩ := h
    have G := N.G
    refine ⟨_, rfl, b, dx, _, rfl, N.hb, b, dx, sg, dl, sl, st0, g, z, ds0, xs0, rfl, N, rfl, _, rfl, iteN rfl ?_⟩
    refine ⟨_, rfl, _, _, _, _, true, rfl, .ty _, .base (.tup h1), rfl, _, rfl, iteF ?_⟩
    refine ⟨_, rfl, st, _, rfl, .inr (sqT_of h1), rfl, _, rfl, iteN rfl ?_⟩
    refine ⟨_, rfl, st, _, 0, _, rfl, rfl, sqT_of h1, rfl, rfl, _, rfl, iteD (by intro q; cases q) ?_⟩
    refine ⟨_, rfl, st, _, rfl, sqT_of h1, rfl, _, _, rfl, _, _, rfl, _, _, rfl, _, _, rfl, rfl, ?_⟩
    refine ⟨_, rfl, rt, rfl, ⟨_, sqT_of h2⟩, for_tup (K := K) (a := rt) (xs := xs) (fun i σ H' => Same H H' ∧ ∃ v, σ = [some (.ref b), some (.ref st), some (.int z.place), some (.ref rt), some (.ref tt), some (.ref ft), v, none, none, none]) ⟨Same.refl _, _, rfl⟩ (fun i σ H' _ hP => sqT_of (hP.1 _ _ h2)) ?_ ?_⟩
    · rintro i x σ H' hx ⟨s1, v, rfl⟩
      have hi : i < z.rs.length := by
        have := (List.getElem?_eq_some_iff.mp hx).1
        rw [h5.1] at this
        exact this
      have hget : z.rs[i]? = some z.rs[i] := by simp [hi]
      obtain ⟨q, hq1, hq2⟩ := h5.2 i z.rs[i] hget
      rw [hx] at hq1
      obtain rfl := Option.some.inj hq1
      have RI := G.inv.rI z.rs[i] (List.mem_of_getElem? hget)
      generalize z.rs[i] = r at hq2 RI
      obtain ⟨cnt, flag, th⟩ := r
      have hq3 := s1 _ _ hq2
      refine ⟨_, rfl, q, _, 0, _, rfl, rfl, sqT_of hq3, rfl, rfl, _, rfl, ?_⟩
      cases th with
      | none => exact iteD (by show ¬ V.str "out" = V.str "inside"; decide +kernel) (iteF ⟨s1, _, rfl⟩)
      | some t =>
        refine iteDT (by show V.str "inside" = V.str "inside"; rfl) ?_
        have hT : SqT K H' ft (fs.map V.int) := sqT_of (s1 _ _ h4)
        refine ⟨_, rfl, ft, rfl, ⟨_, hT⟩, fun D hD => ?_⟩
        refine lc_tup (xs := fs.map V.int) (fun i H2 => Same H' H2 ∧ H2 D = some (.lst [])) ⟨same_upd hD, upd_same⟩ (fun i H2 _ hP => sqT_same hP.1 hT) (fun i x H2 hx2 hP => ?_) (fun H2 hP => ?_)
        · obtain ⟨fv, hf, rfl⟩ : ∃ fv, fs[i]? = some fv ∧ x = V.int fv := by
            rw [List.getElem?_map] at hx2
            cases e : fs[i]? with
            | none => rw [e] at hx2; cases hx2
            | some d => rw [e] at hx2; exact ⟨d, rfl, (Option.some.inj hx2).symm⟩
          have hlt : fv < t := (RI.th0 t rfl).2.2.2 fv (h7.mem_iff.mp (List.mem_of_getElem? hf))
          exact ⟨rfl, _, rfl, _, rfl, q, _, 3, _, rfl, rfl, sqT_of (hP.1 _ _ hq3), rfl, _, _, rfl, rfl, _, rfl, iteD (by show ¬ t ≤ fv; omega) hP⟩
        · obtain ⟨s2, hD2⟩ := hP
          refine ⟨Nat.zero_le _, fun l hl => ?_⟩
          have s3 : Same H' (upd H2 l (.lst [])) := s2.trans (same_upd hl)
          refine ⟨.list [], .list [], .lst (sqL_of (same_upd hl _ _ hD2)) .nil, .lst (sqL_of upd_same) .nil, by rfl, by rfl, _, rfl, iteF ⟨s1.trans s3, _, rfl⟩⟩
    · rintro σ H' ⟨s1, v, rfl⟩
      refine ⟨_, rfl, ft, _, rfl, .inr (sqT_of (s1 _ _ h4)), fun l1 hl1 => ?_⟩
      generalize h_H1 : upd H' l1 _ = H1
      have s_H1 : Same H' H1 := h_H1 ▸ same_upd hl1
      have e_H1 := (congrFun h_H1.symm l1).trans upd_same
      have s01 := s1.trans s_H1
      have hT : SqT K H1 tt ys := sqT_of (s01 _ _ h3)
      refine ⟨_, rfl, tt, rfl, ⟨_, hT⟩, fun D hD => ?_⟩
      have nlD : l1 ≠ D := ne_of_none e_H1 hD
      refine lc_tup (xs := ys) (fun i H2 => Same H1 H2 ∧ H2 D = some (.lst (((z.ts.take i).filterMap (·.out)).map V.int))) ⟨same_upd hD, upd_same⟩ (fun i H2 _ hP => sqT_same hP.1 hT) (fun i x H2 hx2 hP => ?_) (fun H2 hP => ?_)
      · obtain ⟨s2, hD2⟩ := hP
        have hi : i < z.ts.length := by
          have := (List.getElem?_eq_some_iff.mp hx2).1
          rw [h6.1] at this
          exact this
        have hget : z.ts[i]? = some z.ts[i] := by simp [hi]
        obtain ⟨q, hq1, nq, hq2, _⟩ := h6.2 i z.ts[i] hget
        rw [hx2] at hq1
        obtain rfl := Option.some.inj hq1
        have hq3 := s2 _ _ (s01 _ _ hq2)
        have etk : (z.ts.take (i + 1)).filterMap (·.out) = (z.ts.take i).filterMap (·.out) ++ z.ts[i].out.toList := by
          rw [List.take_add_one, hget, List.filterMap_append]
          congr 1
        refine ⟨rfl, _, rfl, q, _, 3, _, rfl, rfl, sqT_of hq3, rfl, rfl, _, rfl, ?_⟩
        cases eo : z.ts[i].out with
        | none =>
          refine iteN rfl ⟨s2, ?_⟩
          rw [etk, eo, hD2]
          try simp
        | some o =>
          refine iteNT (by intro q; cases q) ⟨_, rfl, q, _, 3, _, rfl, rfl, sqT_of hq3, by rw [eo]; rfl, _, hD2, ?_, fun p u hp => ?_, ?_⟩
          · rw [List.length_map]
            have hz := (List.length_filterMap_le (fun t : EpM.Tk => t.out) (z.ts.take i))
            have h2 := G.ts N.hS.1
            rw [List.length_take] at hz
            exact small1000 (by omega)
          · rw [upd_ne (fun e => by rw [e, hD] at hp; cases hp)]
            exact s2 _ _ hp
          · rw [upd_same, etk, eo, List.map_append]
            try rfl
      · obtain ⟨s2, hD2⟩ := hP
        rw [h6.1, List.take_length] at hD2
        have hl12 := s2 _ _ e_H1
        have hzl : ((z.ts.filterMap (·.out)).map V.int).length ≤ 2 := by
          rw [List.length_map]
          exact Nat.le_trans (List.length_filterMap_le _ _) (G.ts N.hS.1)
        have hfl : (fs.map V.int).length ≤ 40 := by
          rw [List.length_map, h7.length_eq]
          exact G.fr N.hS.1
        refine ⟨l1, D, _, _, rfl, rfl, hl12, hD2, Nat.le_of_lt (small1000 (by omega)), fun l2 hl2 => ?_⟩
        generalize h_H3 : upd H2 l2 _ = H3
        have s_H3 : Same H2 H3 := h_H3 ▸ same_upd hl2
        have e_H3 := (congrFun h_H3.symm l2).trans upd_same
        rw [← List.map_append] at e_H3
        refine ⟨_, rfl, l2, fs ++ z.ts.filterMap (·.out), rfl, rfl, sqL_of e_H3, fun ns' p1 hperm hsort hp1 => ?_⟩
        generalize h_H4 : upd H3 p1 _ = H4
        have s_H4 : Same H3 H4 := h_H4 ▸ same_upd hp1
        have e_H4 := (congrFun h_H4.symm p1).trans upd_same
        have hp0 := G.inv.p0
        have hpt := G.inv.pt
        have hth : z.place ≤ 40 := by
          have h40 : g.th ≤ 40 := N.hS.1.2.2.2.2.2.2
          have : g.cf.things = g.th := rfl
          omega
        refine ⟨_, rfl, _, rfl, RgOk.of_le (by decide) (by omega) (by decide) hp0, fun l3 hl3 => ?_⟩
        generalize h_H5 : upd H4 l3 _ = H5
        have s_H5 : Same H4 H5 := h_H5 ▸ same_upd hl3
        have e_H5 := (congrFun h_H5.symm l3).trans upd_same
        have ens : ns' = EpM.rangeI z.place := sorted_range (hperm.trans ((h7.append_right _).trans G.inv.perm)) hsort
        subst ens
        rw [rg_ints] at e_H5
        refine ⟨.list ((EpM.rangeI z.place).map PyData.int), .list ((EpM.rangeI z.place).map PyData.int), .lst (sqL_of (s_H5 _ _ e_H4)) (ints_dp _), .lst (sqL_of e_H5) (ints_dp _), ints_shaped _, ints_shaped _, ?_⟩
        rw [SeqAt.eqv_refl _ (show (PyData.list ((EpM.rangeI z.place).map PyData.int)).canLay0 = true from ints_lay _)]
        exact k _ (s01.trans (s2.trans (s_H3.trans (s_H4.trans s_H5))))
end
end Ep
namespace Ep
open PySem PySem.Spec L2 EpR
open PyProof.Rows hiding St
/-- an instance that may be called -/
structure Clo (P : Program) (w : World) (K : PySem.W.Frag) (mg : Str → Option Value) (base : Heap) (k : Nat) (C : Addr) (sp : Sp) : Prop where
  ex : ∃ (g : Addr) (fd : FuncData) (ps : List Str), StX.CallO K C g ∧ FnOk P w K mg base CX0 k g fd ps sp ∧ Binds K fd ps []
theorem pe_callN {X : Cx} {k j : Nat} {C : Addr} {sp : Sp} {fe e : Expr} {es : List Expr} {pos : Pos} {tf : TE} {t : TA} (c : Clo X.prog X.w X.K X.mg X.base k C sp) (hr : Room j X.A) (hk : k ≤ j) (hf : PE X fe tf) (ha : PA X (e :: es) t)
    (ht : eval (.Call fe (e :: es) [] pos) X.env = (do callWith pos (← eval fe X.env) [] (backTo pos (starEach (e :: es) X.env)) (backToKw pos (keywordEach [] X.env))) := by rfl)
    (he : starEach (e :: es) X.env = (false, eval e X.env) :: starEach es X.env := by rfl) (hpl : (backTo pos (starEach es X.env)).any (·.1) = false := by rfl) : PE X (.Call fe (e :: es) [] pos) (StX.tCallO X C sp E0 tf t) := by
  obtain ⟨g, fd, ps, c, F, b⟩ := c.ex
  have F' : FnR X.prog X.w X.K X.mg X.base CX0 k g sp := by
    have z := F.raw b .nil
    simp only [List.append_nil] at z
    exact z
  exact StX.pe_callO hf c F' (hr.mono hk) pass0 ha ht he hpl
section
variable {P : Program} {w : World} {K : PySem.W.Frag} {mg : Str → Option Value} {base : Heap} {a : Ad} {f : Addr} {fd : FuncData}
def spLaw (K : PySem.W.Frag) : Sp := fun vs H Q _ => ∃ (sa : Addr) (ns : List Int), vs = [.ref sa] ∧ SqL K H sa (ns.map V.int) ∧ ns.length ≤ 63 ∧ ∀ H', Q (.bl true) H'
theorem cut_ints {ns : List Int} {lo hi : Option Int} {i : Nat} {x : V} (h : (cutV (ns.map V.int) lo hi)[i]? = some x) : ∃ c, x = .int c := by
  have hm : x ∈ cutV (ns.map V.int) lo hi := List.mem_of_getElem? h
  unfold cutV at hm
  have h2 := List.mem_of_mem_drop (List.mem_of_mem_take hm)
  obtain ⟨c, _, rfl⟩ := List.mem_map.mp h2
  exact ⟨c, rfl⟩
theorem sc_law : FnScope ["_law_script", "_law_own", "_law_bench", "_law_cell", "_law_turn", "_law_some", "_law_state"] ["_law_script"] (defScope (top 72)) := ⟨rfl, rfl, rfl, by decide +kernel, rfl, by decide +kernel, by decide +kernel⟩
theorem ok_law (T : TX w K mg a) (c__law_pool : Cal P w K mg base 1 "_law_pool" (spPool K)) (c__law_safe_own : Cal P w K mg base 3 "_law_safe_own" spSafeOwn) (c__law_book : Cal P w K mg base 8 "_law_book" (spBook a)) (c_is_safe : Cal P w K mg base 4 "is_safe" (spSafe a))
    (c__law_setting : Cal P w K mg base 11 "_law_setting" (spSetting a)) (c_Bench : Mak P w K mg base 5 "Bench" a.CN (spNinit a)) (m_nmoves : Met P w K mg base 6 a.CN "moves" (spNmoves a)) (c_call : Clo P w K mg base 8 a.CN (spNcall a)) (c__law_holds : Cal P w K mg base 4 "_law_holds" (spHolds a))
    (F : FunP K "law" "law" (top 72) [] [] f fd) : FnOk P w K mg base CX0 13 f fd ["_law_script"] (spLaw K) := by
  refine F.ok sc_law (fun vs H Q E h => ?_) (fun cdv A outer s H vs Q E hr h => ⟨_, PSs.nox ((pss_cons (ps_set (i := 1) sc_law.nd rfl (by first | exact Or.inl rfl | exact Or.inr rfl) (pe_c c__law_safe_own hr (by decide) rfl (pa_cons (pe_c c__law_pool hr (by decide) rfl (pa_cons (pv 0) (pa_cons pe_int pa_nil))) pa_nil))) (pss_cons (ps_if (pt_not (pt_val (pe_c c_is_safe hr (by decide) rfl (pa_cons (pe_c c__law_book hr (by decide) rfl (pa_cons (pv 1) pa_nil)) pa_nil)))) (pss_one (ps_ret pe_bl)) pss_nil) (pss_cons (ps_set (i := 2) sc_law.nd rfl (by first | exact Or.inl rfl | exact Or.inr rfl) (pe_k c_Bench hr (by decide) rfl (pa_cons (pe_c c__law_setting hr (by decide) rfl (pa_cons (pv 1) pa_nil)) pa_nil))) (pss_cons (ps_for PassesOwn.never rfl (pi_list (pe_slice sl_list (pv 0) (po_some pe_int) (po_some pe_int))) (pg_name (i := 3) sc_law.nd rfl (by first | exact Or.inl rfl | exact Or.inr rfl)) (pss_one (ps_for PassesOwn.never rfl (pi_range1 (by rfl) T.n_range (pa_cons pe_int pa_nil)) (pg_name (i := 4) sc_law.nd rfl (by first | exact Or.inl rfl | exact Or.inr rfl)) (pss_cons (ps_set (i := 5) sc_law.nd rfl (by first | exact Or.inl rfl | exact Or.inr rfl) (pe_m0 m_nmoves hr (by decide) (pv 2))) (pss_cons (ps_set (i := 6) sc_law.nd rfl (by first | exact Or.inl rfl | exact Or.inr rfl) (pe_callN c_call hr (by decide) (pv 2) (pa_cons (pe_ix ix_list (pv 5) (pe_op op_mod (pe_callTy call_int1 (by rfl) T.n_int boot_int (pa_cons (pv 3) pa_nil)) (pe_callB call_len_seq (by rfl) T.n_len PySem.boot_len (pa_cons (pv 5) pa_nil))) (by intro _ _; rfl)) pa_nil))) (pss_cons (ps_set (i := 3) sc_law.nd rfl (by first | exact Or.inl rfl | exact Or.inr rfl) (pe_op op_fdivN (pv 3) (pe_callB call_len_seq (by rfl) T.n_len PySem.boot_len (pa_cons (pv 5) pa_nil)))) (pss_one (ps_if (pt_not (pt_val (pe_c c__law_holds hr (by decide) rfl (pa_cons (pv 2) (pa_cons (pv 6) pa_nil))))) (pss_one (ps_ret pe_bl)) pss_nil)))))))) (pss_one (ps_ret pe_bl))))))), ?_⟩)
  · obtain ⟨sa, ns, rfl, _⟩ := h
    rfl
  · obtain ⟨sa, ns, rfl, hS, hlen, k⟩ := h
    refine ⟨_, rfl, sa, ns, rfl, hS, fun p H1 s1 hp0 hP => ⟨p, rfl, hP, fun o hn g H2 s2 hL hh okg sf => ?_⟩⟩
    have s02 : Same H H2 := s2.same0 s1 hp0
    refine ⟨_, rfl, o, hn, g.b, g.th, rfl, hL, okg.1, fun pb H3 s3 hb => ⟨pb, g.b, rfl, hb, sf, fun H4 s4 => ⟨_, rfl, iteF ?_⟩⟩⟩
    have s24 := s3.trans s4
    have cok : g.cf.Ok := ⟨okg.1.1, okg.1.2, sf, okg.2.2.2.2.2.1, okg.2.2.2.2.2.2⟩
    refine ⟨_, rfl, o, hn, g, rfl, hL.same s24, s24 _ _ hh, okg, fun t H5 s5 ht0 hS5 => fun x dx hx hdx hne => ?_⟩
    have sx : Same H5 (upd (upd H5 dx (.own x)) x (.ins a.CN dx [])) := fun z u e => by
      rw [upd_ne (ne_of_none e hx), upd_ne (ne_of_none e hdx)]
      exact e
    obtain ⟨_, dt, _, _, ht1, _⟩ := id hS5
    refine ⟨x, dx, t, g, rfl, upd_same, hS5.same sx, cok, ne_of_none ht1 hx, fun dl sl st H6 s6 hdl hsl N6 => ⟨rfl, ?_⟩⟩
    have s05 : Same H H5 := s02.trans (s24.trans s5)
    have s06 : Same H H6 := s6.same0 (s05.trans sx) (s05.free hx)
    refine ⟨_, rfl, _, rfl, _, rfl, sa, _, rfl, s06.seq hS, fun l0 hl0 => ?_⟩
    generalize h_H7 : upd H6 l0 _ = H7
    have s_H7 : Same H6 H7 := h_H7 ▸ same_upd hl0
    have e_H7 := (congrFun h_H7.symm l0).trans upd_same
    have ndl : l0 ≠ dl := fun e => by rw [e, N6.hd] at hl0; cases hl0
    have nsl : l0 ≠ sl := fun e => by rw [e, N6.hs] at hl0; cases hl0
    have hcl := cutV_length (ns.map V.int) (some 1) (some 63)
    rw [List.length_map] at hcl
    refine ⟨l0, rfl, ⟨_, sqL_of e_H7⟩, for_list (K := K) (a := l0) (xs := cutV (ns.map V.int) (some 1) (some 63)) (fun i σ H' => ∃ (v3 v4 v5 v6 : Option V) (st' : Addr) (z : EpM.St) (ds xs : List V), σ = [some (.ref sa), some (.ref o), some (.ref x), v3, v4, v5, v6] ∧ NAt a H' x dx t dl sl st' g z ds xs ∧ ds.length ≤ 3 * i ∧ xs.length ≤ 3 * i ∧ H' l0 = some (.lst (cutV (ns.map V.int) (some 1) (some 63))))
      ⟨_, _, _, _, st, _, [], [], rfl, N6.same s_H7, Nat.zero_le _, Nat.zero_le _, e_H7⟩ (fun i σ H' _ hP => by obtain ⟨_, _, _, _, _, _, _, _, _, _, _, _, h⟩ := hP; exact sqL_of h) ?_ ?_⟩
    · rintro i y σ H' hy ⟨v3, v4, v5, v6, st1, z1, ds1, xs1, rfl, N1, hd1, hx1, hl1⟩
      obtain ⟨c0, rfl⟩ := cut_ints hy
      have hi : i < ns.length := by
        have := (List.getElem?_eq_some_iff.mp hy).1
        omega
      refine ⟨_, rfl, by decide, by decide, for_range (lo := 0) (n := 3) (fun j σ H' => ∃ (c : Int) (v4 v5 v6 : Option V) (st' : Addr) (z : EpM.St) (ds xs : List V), σ = [some (.ref sa), some (.ref o), some (.ref x), some (.int c), v4, v5, v6] ∧ NAt a H' x dx t dl sl st' g z ds xs ∧ ds.length ≤ 3 * i + j ∧ xs.length ≤ 3 * i + j ∧ H' l0 = some (.lst (cutV (ns.map V.int) (some 1) (some 63))))
        ⟨c0, _, _, _, st1, z1, ds1, xs1, rfl, N1, hd1, hx1, hl1⟩ ?_ ?_⟩
      · rintro j σ2 H8 hj ⟨c, w4, w5, w6, st2, z2, ds2, xs2, rfl, N2, hd2, hx2, hl2⟩
        have G := N2.G
        refine ⟨_, rfl, x, dx, _, rfl, N2.hb, rfl, x, dx, t, dl, sl, st2, g, z2, ds2, xs2, rfl, N2, fun l ms H9 s9 hln hl hm => ?_⟩
        have N9 := N2.same s9
        have nldl : l ≠ dl := fun e => by rw [e, N2.hd] at hln; cases hln
        have nlsl : l ≠ sl := fun e => by rw [e, N2.hs] at hln; cases hln
        have hmpos : 0 < ms.length := by
          rw [hm.1]
          exact List.length_pos_iff.mpr (EpM.moves_ne G.inv.nr)
        have hmle : ms.length ≤ 100 := by
          have h1 := rMoves_len g.cf z2.rs 0
          have h2 := tMoves_len g.cf z2.place z2.ts 0
          have h3 := G.rs N2.hS.1
          have h4 := G.ts N2.hS.1
          rw [hm.1]
          unfold EpM.moves
          rw [List.length_append]
          omega
        have r0 := Int.emod_nonneg c (show (ms.length : Int) ≠ 0 by omega)
        have r1 := Int.emod_lt_of_pos c (show (0 : Int) < (ms.length : Int) by omega)
        have hidx : (c % (ms.length : Int)).toNat < (EpM.moves g.cf z2).length := by
          rw [← hm.1]
          omega
        obtain ⟨q, hq1, hq2⟩ := hm.2 (c % (ms.length : Int)).toNat (EpM.moves g.cf z2)[(c % (ms.length : Int)).toNat] (by simp [hidx])
        have hv : (EpM.moves g.cf z2)[(c % (ms.length : Int)).toNat] ∈ EpM.moves g.cf z2 := List.getElem_mem hidx
        generalize (EpM.moves g.cf z2)[(c % (ms.length : Int)).toNat] = v at hq2 hv
        have hat := atI_nat hq1
        rw [show (((c % (ms.length : Int)).toNat : Nat) : Int) = c % (ms.length : Int) by omega] at hat
        refine ⟨_, rfl, x, rfl, _, rfl, _, rfl, .inl ⟨_, rfl, _, rfl, l, ms, rfl, .inl (sqL_of hl), _, _, rfl, rfl, by show (0 : Int) < (ms.length : Int); omega, l, ms, _, _, rfl, rfl, sqL_of hl, hat, .inr ⟨dx, _, N9.hb⟩, x, dx, t, dl, sl, st2, q, g, z2, ds2, xs2, v, rfl, N9, hq2, hv, by omega, by omega, fun st3 HA sA NA => ?_⟩⟩
        have hlA : HA l = some (.lst ms) := sA _ _ nldl nlsl hl
        refine ⟨_, rfl, _, rfl, l, ms, rfl, .inl (sqL_of hlA), _, _, rfl, rfl, ⟨by omega, by omega⟩, ?_⟩
        refine ⟨_, rfl, _, rfl, x, dx, t, dl, sl, st3, st3, g, _, _, _, rfl, NA, NA.hst, fun HB sB => ⟨_, rfl, iteF ?_⟩⟩
        refine ⟨_, _, _, _, st3, _, _, _, rfl, NA.same sB, ?_, ?_, sB _ _ (sA _ _ ndl nsl (s9 _ _ hl2))⟩
        · rw [List.length_append]
          show ds2.length + 1 ≤ _
          omega
        · rw [List.length_append]
          show xs2.length + 1 ≤ _
          omega
      · rintro σ2 H8 ⟨c, w4, w5, w6, st2, z2, ds2, xs2, rfl, N2, hd2, hx2, hl2⟩
        exact ⟨_, _, _, _, st2, z2, ds2, xs2, rfl, N2, by omega, by omega, hl2⟩
    · rintro σ H' ⟨v3, v4, v5, v6, st1, z1, ds1, xs1, rfl, N1, hd1, hx1, hl1⟩
      exact k _
end
end Ep
namespace Ep
open PySem PySem.Spec L2 EpR
open PyProof.Rows hiding St
theorem funS_at {P : Program} {K : PySem.W.Frag} {a cd cc D : Addr} {x q : Str} {st : Stmt} {kws : List (Str × V)} (e : fnA K a = some (x, q, defArgs st, FuncBody.stmts (defBody st), defScope st, mainGlobals, [(("__class__" : Str), cc)], builtinsNs)) (c : fnB K a q [] kws = true) (cb : codeB P K a cd cc D = true) : ∃ fd, FunS P K D x q st kws a fd := by
  obtain ⟨oc, od, dV, kV, doc, pm, an, cdv, ct, osl, h1, h2, h3, h4⟩ := fn_at e c
  obtain ⟨b1, b2⟩ := He.ba cb
  obtain ⟨b3, b4⟩ := He.ba b2
  rw [h1] at b1
  have ec : cdv = .ref cd := of_decide_eq_true b1
  subst ec
  have ed : dV = .none := by
    rcases h3 with ⟨_, h⟩ | ⟨h, _⟩
    · exact h
    · exact absurd rfl h
  subst ed
  cases z1 : K.lookup cd with
  | none => rw [z1] at b3; cases b3
  | some o1 =>
    obtain ⟨c1, d1, t1, sl1⟩ := o1
    rw [z1] at b3
    cases t1 with
    | fields vs =>
      have b3' : (match vs[2]? with
        | some (Value.str file _) => (P.main.file : Str) == file
        | _ => false) = true := b3
      cases z2 : vs[2]? with
      | none => rw [z2] at b3'; cases b3'
      | some v =>
        rw [z2] at b3'
        cases v with
        | str file tf =>
          cases z3 : K.lookup cc with
          | none => rw [z3] at b4; cases b4
          | some o2 =>
            obtain ⟨c2, d2, t2, sl2⟩ := o2
            rw [z3] at b4
            cases t2 with
            | cell w =>
              cases w with
              | none => cases b4
              | some v2 =>
                cases v2 with
                | ref b =>
                  have eb : b = D := of_decide_eq_true b4
                  subst eb
                  exact ⟨_, ⟨oc, od, kV, doc, pm, an, cd, ct, cc, osl, c1, d1, vs, sl1, file, tf, c2, d2, sl2, rfl, h1, h2, h4, z1, z2, b3', z3⟩⟩
                | _ => cases b4
            | _ => cases b4
        | _ => cases b3'
    | _ => cases b3
/-! the binding of StillBook's arguments -/
theorem bindsS {P : Program} {K : PySem.W.Frag} {D f : Addr} {fd : FuncData} (F : FunS P K D "__init__" "StillBook.__init__" (inClass (top 24) 2) kwS f fd) :
    (∃ ds, Vals [V.str "outside", .str "behind", .str "none"] ds ∧ Binds K fd psS ds) ∧ KBn K fd psS 2 ["still", "read", "sleep"] (fun us ws => us ++ ws) (fun vs zs => vs ++ zs) := by
  obtain ⟨oc, od, kV, doc, pm, an, cda, ct, cc, osl, ccl, cdd, vs0, ccs, file, tf, cl, cld, csl, rfl, lk, hcd, hK, _⟩ := F.ex
  rcases hK with e | ⟨T, rfl, hq⟩
  · exact absurd e (by unfold kwS; simp)
  · obtain ⟨ks, hl, rk, hks⟩ := kwd_vals hq
    refine ⟨⟨ks, rk, fun s us X hlen => ?_⟩, ⟨fun s us ws X l1 l2 => ?_, fun r1 r2 => r1.append r2⟩⟩
    · have l2 : us.length = 2 := by
        have hl' : ks.length = 3 := hl
        rw [List.length_append, hl'] at hlen
        have h5 : us.length + 3 = 5 := hlen
        omega
      refine BindsTo.of_looks fun M => KwChain.looks X hks ?_
      match us, l2, ks, hl with
      | [u1, u2], _, [k1, k2, k3], _ =>
        exact ⟨_, _, _, _, _, _, rfl, rfl, _, _, _, _, _, _, rfl, rfl, _, _, _, _, _, _, rfl, rfl, rfl⟩
    · match us, l1, ws, l2 with
      | [u1, u2], _, [k1, k2, k3], _ => exact .of_eq rfl
end Ep
namespace Ep
open PySem PySem.Spec L2 EpR
open PyProof.Rows hiding St
theorem facts_law {w : World} {K : PySem.W.Frag} {h0 : Heap} {mg : Str → Option Value} {fa : Addr} (X : K.In h0) (G : h0.Ns mainGlobals mg) (hfa : mg ("law" : Str) = some (.ref fa)) (h : Says w K) :
    ∃ fd : FuncData, (∀ (s : Shared) (v : Value), BindsTo s fd ⟨[v], []⟩ [("_law_script", v)]) ∧ ∀ base : Heap, K.In base → base.Ns mainGlobals mg → FnOk PR w K mg base CX0 13 fa fd ["_law_script"] (spLaw K) := by
  obtain ⟨⟨d_is_whole, F_is_whole⟩, kq_is_whole, if_is_whole, fq_is_whole⟩ := (h.small 0).funP (st := (top 11))
  have b_is_whole : Binds K d_is_whole ["value"] [] := FunD.bindsN F_is_whole fun _ _ _ _ _ _ us hl => match us, hl with | [_], _ => rfl
  obtain ⟨⟨d_is_number, F_is_number⟩, kq_is_number, if_is_number, fq_is_number⟩ := (h.small 1).funP (st := (top 10))
  have b_is_number : Binds K d_is_number ["value", "low", "high"] [] := FunD.bindsN F_is_number fun _ _ _ _ _ _ us hl => match us, hl with | [_, _, _], _ => rfl
  obtain ⟨⟨d_values_at, F_values_at⟩, kq_values_at, if_values_at, fq_values_at⟩ := (h.small 2).funP (st := (top 17))
  have b_values_at : Binds K d_values_at ["word", "own"] [] := FunD.bindsN F_values_at fun _ _ _ _ _ _ us hl => match us, hl with | [_, _], _ => rfl
  obtain ⟨⟨d_is_same, F_is_same⟩, kq_is_same, if_is_same, fq_is_same⟩ := (h.small 3).funP (st := (top 18))
  have b_is_same : Binds K d_is_same ["value", "one"] [] := FunD.bindsN F_is_same fun _ _ _ _ _ _ us hl => match us, hl with | [_, _], _ => rfl
  obtain ⟨⟨d_is_value, F_is_value⟩, kq_is_value, if_is_value, fq_is_value⟩ := (h.small 4).funP (st := (top 19))
  have b_is_value : Binds K d_is_value ["word", "own"] [] := FunD.bindsN F_is_value fun _ _ _ _ _ _ us hl => match us, hl with | [_, _], _ => rfl
  obtain ⟨⟨d_is_book, F_is_book⟩, kq_is_book, if_is_book, fq_is_book⟩ := (h.small 5).funP (st := (top 25))
  have b_is_book : Binds K d_is_book ["value"] [] := FunD.bindsN F_is_book fun _ _ _ _ _ _ us hl => match us, hl with | [_], _ => rfl
  obtain ⟨⟨d_look_at_book, F_look_at_book⟩, kq_look_at_book, if_look_at_book, fq_look_at_book⟩ := (h.small 6).funP (st := (top 26))
  have b_look_at_book : Binds K d_look_at_book ["value"] [] := FunD.bindsN F_look_at_book fun _ _ _ _ _ _ us hl => match us, hl with | [_], _ => rfl
  obtain ⟨⟨d_is_safe, F_is_safe⟩, kq_is_safe, if_is_safe, fq_is_safe⟩ := (h.small 7).funP (st := (top 29))
  have b_is_safe : Binds K d_is_safe ["book"] [] := FunD.bindsN F_is_safe fun _ _ _ _ _ _ us hl => match us, hl with | [_], _ => rfl
  obtain ⟨⟨d_look_at_setting, F_look_at_setting⟩, kq_look_at_setting, if_look_at_setting, fq_look_at_setting⟩ := (h.small 8).funP (st := (top 45))
  have b_look_at_setting : Binds K d_look_at_setting ["value"] [] := FunD.bindsN F_look_at_setting fun _ _ _ _ _ _ us hl => match us, hl with | [_], _ => rfl
  obtain ⟨⟨d_first_stills, F_first_stills⟩, kq_first_stills, if_first_stills, fq_first_stills⟩ := (h.small 9).funP (st := (top 47))
  have b_first_stills : Binds K d_first_stills ["setting"] [] := FunD.bindsN F_first_stills fun _ _ _ _ _ _ us hl => match us, hl with | [_], _ => rfl
  obtain ⟨⟨d_is_unsafe, F_is_unsafe⟩, kq_is_unsafe, if_is_unsafe, fq_is_unsafe⟩ := (h.small 10).funP (st := (top 50))
  have b_is_unsafe : Binds K d_is_unsafe ["state"] [] := FunD.bindsN F_is_unsafe fun _ _ _ _ _ _ us hl => match us, hl with | [_], _ => rfl
  obtain ⟨⟨d_world_of, F_world_of⟩, kq_world_of, if_world_of, fq_world_of⟩ := (h.small 11).funP (st := (top 51))
  have b_world_of : Binds K d_world_of ["setting", "state"] [] := FunD.bindsN F_world_of fun _ _ _ _ _ _ us hl => match us, hl with | [_, _], _ => rfl
  obtain ⟨⟨d_first_state, F_first_state⟩, kq_first_state, if_first_state, fq_first_state⟩ := (h.small 12).funP (st := (top 52))
  have b_first_state : Binds K d_first_state ["setting"] [] := FunD.bindsN F_first_state fun _ _ _ _ _ _ us hl => match us, hl with | [_], _ => rfl
  obtain ⟨⟨d_moves, F_moves⟩, kq_moves, if_moves, fq_moves⟩ := (h.small 13).funP (st := (top 53))
  have b_moves : Binds K d_moves ["setting", "state"] [] := FunD.bindsN F_moves fun _ _ _ _ _ _ us hl => match us, hl with | [_, _], _ => rfl
  obtain ⟨⟨d_has_form, F_has_form⟩, kq_has_form, if_has_form, fq_has_form⟩ := (h.small 14).funP (st := (top 55))
  have b_has_form : Binds K d_has_form ["move"] [] := FunD.bindsN F_has_form fun _ _ _ _ _ _ us hl => match us, hl with | [_], _ => rfl
  obtain ⟨⟨d_is_possible, F_is_possible⟩, kq_is_possible, if_is_possible, fq_is_possible⟩ := (h.small 15).funP (st := (top 56))
  have b_is_possible : Binds K d_is_possible ["setting", "state", "move"] [] := FunD.bindsN F_is_possible fun _ _ _ _ _ _ us hl => match us, hl with | [_, _, _], _ => rfl
  obtain ⟨⟨d_step, F_step⟩, kq_step, if_step, fq_step⟩ := (h.small 16).funP (st := (top 57))
  have b_step : Binds K d_step ["setting", "state", "move"] [] := FunD.bindsN F_step fun _ _ _ _ _ _ us hl => match us, hl with | [_, _, _], _ => rfl
  obtain ⟨⟨d__law_pool, F__law_pool⟩, kq__law_pool, if__law_pool, fq__law_pool⟩ := (h.small 17).funP (st := (top 63))
  have b__law_pool : Binds K d__law_pool ["_law_script", "_law_k"] [] := FunD.bindsN F__law_pool fun _ _ _ _ _ _ us hl => match us, hl with | [_, _], _ => rfl
  obtain ⟨⟨d__law_take, F__law_take⟩, kq__law_take, if__law_take, fq__law_take⟩ := (h.small 18).funP (st := (top 64))
  have b__law_take : Binds K d__law_take ["_law_pool_here", "_law_many"] [] := FunD.bindsN F__law_take fun _ _ _ _ _ _ us hl => match us, hl with | [_, _], _ => rfl
  obtain ⟨⟨d__law_one, F__law_one⟩, kq__law_one, if__law_one, fq__law_one⟩ := (h.small 19).funP (st := (top 65))
  have b__law_one : Binds K d__law_one ["_law_pool_here", "_law_some"] [] := FunD.bindsN F__law_one fun _ _ _ _ _ _ us hl => match us, hl with | [_, _], _ => rfl
  obtain ⟨⟨d__law_switches, F__law_switches⟩, kq__law_switches, if__law_switches, fq__law_switches⟩ := (h.small 20).funP (st := (top 66))
  have b__law_switches : Binds K d__law_switches ["_law_way"] [] := FunD.bindsN F__law_switches fun _ _ _ _ _ _ us hl => match us, hl with | [_], _ => rfl
  obtain ⟨⟨d__law_book, F__law_book⟩, kq__law_book, if__law_book, fq__law_book⟩ := (h.small 21).funP (st := (top 68))
  have b__law_book : Binds K d__law_book ["_law_own"] [] := FunD.bindsN F__law_book fun _ _ _ _ _ _ us hl => match us, hl with | [_], _ => rfl
  obtain ⟨⟨d__law_setting, F__law_setting⟩, kq__law_setting, if__law_setting, fq__law_setting⟩ := (h.small 22).funP (st := (top 69))
  have b__law_setting : Binds K d__law_setting ["_law_own"] [] := FunD.bindsN F__law_setting fun _ _ _ _ _ _ us hl => match us, hl with | [_], _ => rfl
  obtain ⟨⟨d__law_safe_own, F__law_safe_own⟩, kq__law_safe_own, if__law_safe_own, fq__law_safe_own⟩ := (h.small 23).funP (st := (top 70))
  have b__law_safe_own : Binds K d__law_safe_own ["_law_pool_here"] [] := FunD.bindsN F__law_safe_own fun _ _ _ _ _ _ us hl => match us, hl with | [_], _ => rfl
  obtain ⟨⟨d__law_holds, F__law_holds⟩, kq__law_holds, if__law_holds, fq__law_holds⟩ := (h.small 24).funP (st := (top 71))
  have b__law_holds : Binds K d__law_holds ["_law_bench", "_law_state"] [] := FunD.bindsN F__law_holds fun _ _ _ _ _ _ us hl => match us, hl with | [_, _], _ => rfl
  obtain ⟨⟨d_law, F_law⟩, kq_law, if_law, fq_law⟩ := (h.small 25).funP (st := (top 72))
  have b_law : Binds K d_law ["_law_script"] [] := FunD.bindsN F_law fun _ _ _ _ _ _ us hl => match us, hl with | [_], _ => rfl
  obtain ⟨⟨d_first_wrong, F_first_wrong⟩, kq_first_wrong, if_first_wrong, fq_first_wrong⟩ := (h.small 26).funP (st := (inClass (top 21) 3))
  have b_first_wrong : Binds K d_first_wrong ["self", "own"] [] := FunD.bindsN F_first_wrong fun _ _ _ _ _ _ us hl => match us, hl with | [_, _], _ => rfl
  obtain ⟨⟨d_look_at_word, F_look_at_word⟩, kq_look_at_word, if_look_at_word, fq_look_at_word⟩ := (h.small 27).funP (st := (inClass (top 21) 5))
  have b_look_at_word : Binds K d_look_at_word ["self", "word"] [] := FunD.bindsN F_look_at_word fun _ _ _ _ _ _ us hl => match us, hl with | [_, _], _ => rfl
  obtain ⟨⟨d_getitem, F_getitem⟩, kq_getitem, if_getitem, fq_getitem⟩ := (h.small 28).funP (st := (inClass (top 21) 9))
  have b_getitem : Binds K d_getitem ["self", "word"] [] := FunD.bindsN F_getitem fun _ _ _ _ _ _ us hl => match us, hl with | [_, _], _ => rfl
  obtain ⟨⟨d_setitem, F_setitem⟩, kq_setitem, if_setitem, fq_setitem⟩ := (h.small 29).funP (st := (inClass (top 21) 10))
  have b_setitem : Binds K d_setitem ["self", "word", "value"] [] := FunD.bindsN F_setitem fun _ _ _ _ _ _ us hl => match us, hl with | [_, _, _], _ => rfl
  obtain ⟨⟨d_binit, F_binit⟩, kq_binit, if_binit, fq_binit⟩ := (h.small 30).funP (st := (inClass (top 21) 2))
  have b_binit : Binds K d_binit ["self", "own"] [] := FunD.bindsN F_binit fun _ _ _ _ _ _ us hl => match us, hl with | [_, _], _ => rfl
  obtain ⟨⟨d_twin, F_twin⟩, kq_twin, if_twin, fq_twin⟩ := (h.small 31).funP (st := (inClass (top 24) 5))
  have b_twin : Binds K d_twin ["self"] [] := FunD.bindsN F_twin fun _ _ _ _ _ _ us hl => match us, hl with | [_], _ => rfl
  obtain ⟨⟨d_winit, F_winit⟩, kq_winit, if_winit, fq_winit⟩ := (h.small 32).funP (st := (inClass (top 48) 0))
  have b_winit : Binds K d_winit ["self", "setting", "state"] [] := FunD.bindsN F_winit fun _ _ _ _ _ _ us hl => match us, hl with | [_, _, _], _ => rfl
  obtain ⟨⟨d_wstate, F_wstate⟩, kq_wstate, if_wstate, fq_wstate⟩ := (h.small 33).funP (st := (inClass (top 48) 1))
  have b_wstate : Binds K d_wstate ["self"] [] := FunD.bindsN F_wstate fun _ _ _ _ _ _ us hl => match us, hl with | [_], _ => rfl
  obtain ⟨⟨d_reader_deeds, F_reader_deeds⟩, kq_reader_deeds, if_reader_deeds, fq_reader_deeds⟩ := (h.small 34).funP (st := (inClass (top 48) 3))
  have b_reader_deeds : Binds K d_reader_deeds ["self", "reader"] [] := FunD.bindsN F_reader_deeds fun _ _ _ _ _ _ us hl => match us, hl with | [_, _], _ => rfl
  obtain ⟨⟨d_taker_deeds, F_taker_deeds⟩, kq_taker_deeds, if_taker_deeds, fq_taker_deeds⟩ := (h.small 35).funP (st := (inClass (top 48) 4))
  have b_taker_deeds : Binds K d_taker_deeds ["self", "taker"] [] := FunD.bindsN F_taker_deeds fun _ _ _ _ _ _ us hl => match us, hl with | [_, _], _ => rfl
  obtain ⟨⟨d_wmoves, F_wmoves⟩, kq_wmoves, if_wmoves, fq_wmoves⟩ := (h.small 36).funP (st := (inClass (top 48) 5))
  have b_wmoves : Binds K d_wmoves ["self"] [] := FunD.bindsN F_wmoves fun _ _ _ _ _ _ us hl => match us, hl with | [_], _ => rfl
  obtain ⟨⟨d_wdo, F_wdo⟩, kq_wdo, if_wdo, fq_wdo⟩ := (h.small 37).funP (st := (inClass (top 48) 6))
  have b_wdo : Binds K d_wdo ["self", "move"] [] := FunD.bindsN F_wdo fun _ _ _ _ _ _ us hl => match us, hl with | [_, _], _ => rfl
  obtain ⟨⟨d_reader_does, F_reader_does⟩, kq_reader_does, if_reader_does, fq_reader_does⟩ := (h.small 38).funP (st := (inClass (top 48) 7))
  have b_reader_does : Binds K d_reader_does ["self", "k", "deed"] [] := FunD.bindsN F_reader_does fun _ _ _ _ _ _ us hl => match us, hl with | [_, _, _], _ => rfl
  obtain ⟨⟨d_noted, F_noted⟩, kq_noted, if_noted, fq_noted⟩ := (h.small 39).funP (st := (inClass (top 48) 8))
  have b_noted : Binds K d_noted ["self", "at", "noted"] [] := FunD.bindsN F_noted fun _ _ _ _ _ _ us hl => match us, hl with | [_, _, _], _ => rfl
  obtain ⟨⟨d_looked, F_looked⟩, kq_looked, if_looked, fq_looked⟩ := (h.small 40).funP (st := (inClass (top 48) 9))
  have b_looked : Binds K d_looked ["self", "at", "noted"] [] := FunD.bindsN F_looked fun _ _ _ _ _ _ us hl => match us, hl with | [_, _, _], _ => rfl
  obtain ⟨⟨d_taker_does, F_taker_does⟩, kq_taker_does, if_taker_does, fq_taker_does⟩ := (h.small 41).funP (st := (inClass (top 48) 10))
  have b_taker_does : Binds K d_taker_does ["self", "k", "deed"] [] := FunD.bindsN F_taker_does fun _ _ _ _ _ _ us hl => match us, hl with | [_, _, _], _ => rfl
  obtain ⟨⟨d_ninit, F_ninit⟩, kq_ninit, if_ninit, fq_ninit⟩ := (h.small 42).funP (st := (inClass (top 61) 0))
  have b_ninit : Binds K d_ninit ["self", "setting"] [] := FunD.bindsN F_ninit fun _ _ _ _ _ _ us hl => match us, hl with | [_, _], _ => rfl
  obtain ⟨⟨d_ncall, F_ncall⟩, kq_ncall, if_ncall, fq_ncall⟩ := (h.small 43).funP (st := (inClass (top 61) 1))
  have b_ncall : Binds K d_ncall ["self", "move"] [] := FunD.bindsN F_ncall fun _ _ _ _ _ _ us hl => match us, hl with | [_, _], _ => rfl
  obtain ⟨⟨d_nmoves, F_nmoves⟩, kq_nmoves, if_nmoves, fq_nmoves⟩ := (h.small 44).funP (st := (inClass (top 61) 5))
  have b_nmoves : Binds K d_nmoves ["self"] [] := FunD.bindsN F_nmoves fun _ _ _ _ _ _ us hl => match us, hl with | [_], _ => rfl
  obtain ⟨d_tinit, F_tinit⟩ := funP_at (st := (inClass (top 44) 0)) (dvs := [.int 1, .int 1, .int 0]) (kws := [("things", .int 3)]) (h.fn 0) (h.fact 0) (h.fact 1)
  obtain ⟨⟨d_way, F_way⟩, kq_way, if_way, fq_way⟩ := (h.small 45).funP (st := (inClass (top 21) 4))
  have b_way : Binds K d_way ["self"] [] := FunD.bindsN F_way fun _ _ _ _ _ _ us hl => match us, hl with | [_], _ => rfl
  obtain ⟨⟨d_readers, F_readers⟩, kq_readers, if_readers, fq_readers⟩ := (h.small 46).funP (st := (inClass (top 44) 2))
  have b_readers : Binds K d_readers ["self"] [] := FunD.bindsN F_readers fun _ _ _ _ _ _ us hl => match us, hl with | [_], _ => rfl
  obtain ⟨⟨d_takers, F_takers⟩, kq_takers, if_takers, fq_takers⟩ := (h.small 47).funP (st := (inClass (top 44) 3))
  have b_takers : Binds K d_takers ["self"] [] := FunD.bindsN F_takers fun _ _ _ _ _ _ us hl => match us, hl with | [_], _ => rfl
  obtain ⟨⟨d_things, F_things⟩, kq_things, if_things, fq_things⟩ := (h.small 48).funP (st := (inClass (top 44) 5))
  have b_things : Binds K d_things ["self"] [] := FunD.bindsN F_things fun _ _ _ _ _ _ us hl => match us, hl with | [_], _ => rfl
  obtain ⟨⟨d_nunsafe, F_nunsafe⟩, kq_nunsafe, if_nunsafe, fq_nunsafe⟩ := (h.small 49).funP (st := (inClass (top 61) 11))
  have b_nunsafe : Binds K d_nunsafe ["self"] [] := FunD.bindsN F_nunsafe fun _ _ _ _ _ _ us hl => match us, hl with | [_], _ => rfl
  obtain ⟨d_sinit, F_sinit⟩ := funS_at (P := PR) (D := 723) (cd := 624) (cc := 611) (st := inClass (top 24) 2) (kws := kwS) (h.fn 1) (h.fact 2) (h.fact 3)
  obtain ⟨⟨ds_sinit, v_sinit, b_sinit⟩, n_sinit⟩ := bindsS F_sinit
  have T : TX w K mg adr := {
    clS := cls_by (find_mro h.cStillBook (along_miss h.cStillBook ((tab_look h.tStillBook "__getattribute__").2.2 (by decide +kernel) (by decide +kernel)) (along_miss h.cBook ((tab_look h.tBook "__getattribute__").2.2 (by decide +kernel) (by decide +kernel)) (along_obj (by kernel_rfl))))) (find_mro h.cStillBook (along_miss h.cStillBook ((tab_look h.tStillBook "__getattr__").2.2 (by decide +kernel) (by decide +kernel)) (along_miss h.cBook ((tab_look h.tBook "__getattr__").2.2 (by decide +kernel) (by decide +kernel)) (along_obj (by kernel_rfl))))) (find_mro h.cStillBook (along_miss h.cStillBook ((tab_look h.tStillBook "__setattr__").2.2 (by decide +kernel) (by decide +kernel)) (along_miss h.cBook ((tab_look h.tBook "__setattr__").2.2 (by decide +kernel) (by decide +kernel)) (along_obj (by kernel_rfl))))) (h.fact 4)
    clT := cls_by (find_mro h.cSetting (along_miss h.cSetting ((tab_look h.tSetting "__getattribute__").2.2 (by decide +kernel) (by decide +kernel)) (along_obj (by kernel_rfl)))) (find_mro h.cSetting (along_miss h.cSetting ((tab_look h.tSetting "__getattr__").2.2 (by decide +kernel) (by decide +kernel)) (along_obj (by kernel_rfl)))) (find_mro h.cSetting (along_miss h.cSetting ((tab_look h.tSetting "__setattr__").2.2 (by decide +kernel) (by decide +kernel)) (along_obj (by kernel_rfl)))) (h.fact 5)
    clW := cls_by (find_mro h.cStillWorld (along_miss h.cStillWorld ((tab_look h.tStillWorld "__getattribute__").2.2 (by decide +kernel) (by decide +kernel)) (along_obj (by kernel_rfl)))) (find_mro h.cStillWorld (along_miss h.cStillWorld ((tab_look h.tStillWorld "__getattr__").2.2 (by decide +kernel) (by decide +kernel)) (along_obj (by kernel_rfl)))) (find_mro h.cStillWorld (along_miss h.cStillWorld ((tab_look h.tStillWorld "__setattr__").2.2 (by decide +kernel) (by decide +kernel)) (along_obj (by kernel_rfl)))) (h.fact 6)
    clN := cls_by (find_mro h.cBench (along_miss h.cBench ((tab_look h.tBench "__getattribute__").2.2 (by decide +kernel) (by decide +kernel)) (along_obj (by kernel_rfl)))) (find_mro h.cBench (along_miss h.cBench ((tab_look h.tBench "__getattr__").2.2 (by decide +kernel) (by decide +kernel)) (along_obj (by kernel_rfl)))) (find_mro h.cBench (along_miss h.cBench ((tab_look h.tBench "__setattr__").2.2 (by decide +kernel) (by decide +kernel)) (along_obj (by kernel_rfl)))) (h.fact 7)
    nSown := (find_mro h.cStillBook (along_miss h.cStillBook ((tab_look h.tStillBook "own").2.2 (by decide +kernel) (by decide +kernel)) (along_miss h.cBook ((tab_look h.tBook "own").2.2 (by decide +kernel) (by decide +kernel)) (along_obj (by kernel_rfl)))))
    nSorder := (find_mro h.cStillBook (along_miss h.cStillBook ((tab_look h.tStillBook "order").2.2 (by decide +kernel) (by decide +kernel)) (along_miss h.cBook ((tab_look h.tBook "order").2.2 (by decide +kernel) (by decide +kernel)) (along_obj (by kernel_rfl)))))
    nTkept := (find_mro h.cSetting (along_miss h.cSetting ((tab_look h.tSetting "kept").2.2 (by decide +kernel) (by decide +kernel)) (along_obj (by kernel_rfl))))
    nThands := (find_mro h.cSetting (along_miss h.cSetting ((tab_look h.tSetting "hands").2.2 (by decide +kernel) (by decide +kernel)) (along_obj (by kernel_rfl))))
    nWsetting := (find_mro h.cStillWorld (along_miss h.cStillWorld ((tab_look h.tStillWorld "setting").2.2 (by decide +kernel) (by decide +kernel)) (along_obj (by kernel_rfl))))
    nWown := (find_mro h.cStillWorld (along_miss h.cStillWorld ((tab_look h.tStillWorld "own").2.2 (by decide +kernel) (by decide +kernel)) (along_obj (by kernel_rfl))))
    nWspot := (find_mro h.cStillWorld (along_miss h.cStillWorld ((tab_look h.tStillWorld "spot").2.2 (by decide +kernel) (by decide +kernel)) (along_obj (by kernel_rfl))))
    nWreader_rows := (find_mro h.cStillWorld (along_miss h.cStillWorld ((tab_look h.tStillWorld "reader_rows").2.2 (by decide +kernel) (by decide +kernel)) (along_obj (by kernel_rfl))))
    nWtaker_rows := (find_mro h.cStillWorld (along_miss h.cStillWorld ((tab_look h.tStillWorld "taker_rows").2.2 (by decide +kernel) (by decide +kernel)) (along_obj (by kernel_rfl))))
    nWfreed := (find_mro h.cStillWorld (along_miss h.cStillWorld ((tab_look h.tStillWorld "freed").2.2 (by decide +kernel) (by decide +kernel)) (along_obj (by kernel_rfl))))
    nWbad := (find_mro h.cStillWorld (along_miss h.cStillWorld ((tab_look h.tStillWorld "bad").2.2 (by decide +kernel) (by decide +kernel)) (along_obj (by kernel_rfl))))
    nNsetting := (find_mro h.cBench (along_miss h.cBench ((tab_look h.tBench "setting").2.2 (by decide +kernel) (by decide +kernel)) (along_obj (by kernel_rfl))))
    nNdone := (find_mro h.cBench (along_miss h.cBench ((tab_look h.tBench "done").2.2 (by decide +kernel) (by decide +kernel)) (along_obj (by kernel_rfl))))
    nNstates := (find_mro h.cBench (along_miss h.cBench ((tab_look h.tBench "states").2.2 (by decide +kernel) (by decide +kernel)) (along_obj (by kernel_rfl))))
    words := conA_ok (h.fact 8)
    way := conA_ok (h.fact 9)
    tW := ktup_ok (h.fact 10)
    t2 := ktup_ok (h.fact 11)
    t3 := ktup_ok (h.fact 12)
    t4 := ktup_ok (h.fact 13)
    o2 := ord_ok h.tab (He.eqO_ok (h.fact 14))
    o3 := ord_ok h.tab (He.eqO_ok (h.fact 15))
    o4 := ord_ok h.tab (He.eqO_ok (h.fact 16))
    insS := ins_by (cls_by (find_mro h.cStillBook (along_miss h.cStillBook ((tab_look h.tStillBook "__getattribute__").2.2 (by decide +kernel) (by decide +kernel)) (along_miss h.cBook ((tab_look h.tBook "__getattribute__").2.2 (by decide +kernel) (by decide +kernel)) (along_obj (by kernel_rfl))))) (find_mro h.cStillBook (along_miss h.cStillBook ((tab_look h.tStillBook "__getattr__").2.2 (by decide +kernel) (by decide +kernel)) (along_miss h.cBook ((tab_look h.tBook "__getattr__").2.2 (by decide +kernel) (by decide +kernel)) (along_obj (by kernel_rfl))))) (find_mro h.cStillBook (along_miss h.cStillBook ((tab_look h.tStillBook "__setattr__").2.2 (by decide +kernel) (by decide +kernel)) (along_miss h.cBook ((tab_look h.tBook "__setattr__").2.2 (by decide +kernel) (by decide +kernel)) (along_obj (by kernel_rfl))))) (h.fact 4)) (find_mro h.cStillBook (along_miss h.cStillBook ((tab_look h.tStillBook "__class__").2.2 (by decide +kernel) (by decide +kernel)) (along_miss h.cBook ((tab_look h.tBook "__class__").2.2 (by decide +kernel) (by decide +kernel)) (along_obj (by kernel_rfl))))) (of_decide_eq_true (h.fact 17)) spc tkc
    insT := ins_by (cls_by (find_mro h.cSetting (along_miss h.cSetting ((tab_look h.tSetting "__getattribute__").2.2 (by decide +kernel) (by decide +kernel)) (along_obj (by kernel_rfl)))) (find_mro h.cSetting (along_miss h.cSetting ((tab_look h.tSetting "__getattr__").2.2 (by decide +kernel) (by decide +kernel)) (along_obj (by kernel_rfl)))) (find_mro h.cSetting (along_miss h.cSetting ((tab_look h.tSetting "__setattr__").2.2 (by decide +kernel) (by decide +kernel)) (along_obj (by kernel_rfl)))) (h.fact 5)) (find_mro h.cSetting (along_miss h.cSetting ((tab_look h.tSetting "__class__").2.2 (by decide +kernel) (by decide +kernel)) (along_obj (by kernel_rfl)))) (of_decide_eq_true (h.fact 18)) spc tkc
    kitSE := of_decide_eq_true (h.fact 19)
    kitSL := of_decide_eq_true (h.fact 20)
    g_ORDERS := ⟨_, PySem.W.mg_of X G ((tab_look h.gl "ORDERS").1 176 (by decide +kernel)), rfl⟩
    g_EpochBook := ⟨_, PySem.W.mg_of X G ((tab_look h.gl "EpochBook").1 504 (by decide +kernel)), rfl⟩
    g_LookBook := ⟨_, PySem.W.mg_of X G ((tab_look h.gl "LookBook").1 605 (by decide +kernel)), rfl⟩
    g_StillBook := ⟨_, PySem.W.mg_of X G ((tab_look h.gl "StillBook").1 723 (by decide +kernel)), rfl⟩
    g_Setting := ⟨_, PySem.W.mg_of X G ((tab_look h.gl "Setting").1 1052 (by decide +kernel)), rfl⟩
    g_MOST_COUNTS := gi_ok (let ⟨t, e⟩ := (tab_look h.gl "MOST_COUNTS").2.1 4 (by decide +kernel); ⟨t, PySem.W.mg_of X G e⟩)
    g_MOST_READERS := gi_ok (let ⟨t, e⟩ := (tab_look h.gl "MOST_READERS").2.1 3 (by decide +kernel); ⟨t, PySem.W.mg_of X G e⟩)
    g_MOST_TAKERS := gi_ok (let ⟨t, e⟩ := (tab_look h.gl "MOST_TAKERS").2.1 2 (by decide +kernel); ⟨t, PySem.W.mg_of X G e⟩)
    g_MOST_THINGS := gi_ok (let ⟨t, e⟩ := (tab_look h.gl "MOST_THINGS").2.1 40 (by decide +kernel); ⟨t, PySem.W.mg_of X G e⟩)
    n_len := PySem.W.mg_none_of X G ((tab_look h.gl "len").2.2 (by decide +kernel) (by decide +kernel))
    n_isinstance := PySem.W.mg_none_of X G ((tab_look h.gl "isinstance").2.2 (by decide +kernel) (by decide +kernel))
    n_max := PySem.W.mg_none_of X G ((tab_look h.gl "max").2.2 (by decide +kernel) (by decide +kernel))
    n_int := PySem.W.mg_none_of X G ((tab_look h.gl "int").2.2 (by decide +kernel) (by decide +kernel))
    n_list := PySem.W.mg_none_of X G ((tab_look h.gl "list").2.2 (by decide +kernel) (by decide +kernel))
    n_tuple := PySem.W.mg_none_of X G ((tab_look h.gl "tuple").2.2 (by decide +kernel) (by decide +kernel))
    n_sorted := PySem.W.mg_none_of X G ((tab_look h.gl "sorted").2.2 (by decide +kernel) (by decide +kernel))
    n_range := PySem.W.mg_none_of X G ((tab_look h.gl "range").2.2 (by decide +kernel) (by decide +kernel))
    n_bool := PySem.W.mg_none_of X G ((tab_look h.gl "bool").2.2 (by decide +kernel) (by decide +kernel))
    n_str := PySem.W.mg_none_of X G ((tab_look h.gl "str").2.2 (by decide +kernel) (by decide +kernel))
    n_enumerate := PySem.W.mg_none_of X G ((tab_look h.gl "enumerate").2.2 (by decide +kernel) (by decide +kernel))
  }
  have S : SupIn PR K mg adr.CS 228 := ⟨sup_ok (h.fact 21), of_decide_eq_true (h.fact 22), PySem.W.mg_none_of X G ((tab_look h.gl "super").2.2 (by decide +kernel) (by decide +kernel)), by decide +kernel, He.eqO_ok (h.fact 23), of_decide_eq_true (h.fact 24), fq_binit⟩
  have g_is_whole : mg "is_whole" = some (.ref 175) := PySem.W.mg_of X G ((tab_look h.gl "is_whole").1 175 (by decide +kernel))
  have g_is_number : mg "is_number" = some (.ref 168) := PySem.W.mg_of X G ((tab_look h.gl "is_number").1 168 (by decide +kernel))
  have g_values_at : mg "values_at" = some (.ref 194) := PySem.W.mg_of X G ((tab_look h.gl "values_at").1 194 (by decide +kernel))
  have g_is_same : mg "is_same" = some (.ref 201) := PySem.W.mg_of X G ((tab_look h.gl "is_same").1 201 (by decide +kernel))
  have g_is_value : mg "is_value" = some (.ref 206) := PySem.W.mg_of X G ((tab_look h.gl "is_value").1 206 (by decide +kernel))
  have g_is_book : mg "is_book" = some (.ref 732) := PySem.W.mg_of X G ((tab_look h.gl "is_book").1 732 (by decide +kernel))
  have g_look_at_book : mg "look_at_book" = some (.ref 739) := PySem.W.mg_of X G ((tab_look h.gl "look_at_book").1 739 (by decide +kernel))
  have g_is_safe : mg "is_safe" = some (.ref 753) := PySem.W.mg_of X G ((tab_look h.gl "is_safe").1 753 (by decide +kernel))
  have g_look_at_setting : mg "look_at_setting" = some (.ref 1063) := PySem.W.mg_of X G ((tab_look h.gl "look_at_setting").1 1063 (by decide +kernel))
  have g_first_stills : mg "first_stills" = some (.ref 1070) := PySem.W.mg_of X G ((tab_look h.gl "first_stills").1 1070 (by decide +kernel))
  have g_is_unsafe : mg "is_unsafe" = some (.ref 1166) := PySem.W.mg_of X G ((tab_look h.gl "is_unsafe").1 1166 (by decide +kernel))
  have g_world_of : mg "world_of" = some (.ref 1173) := PySem.W.mg_of X G ((tab_look h.gl "world_of").1 1173 (by decide +kernel))
  have g_first_state : mg "first_state" = some (.ref 1180) := PySem.W.mg_of X G ((tab_look h.gl "first_state").1 1180 (by decide +kernel))
  have g_moves : mg "moves" = some (.ref 1187) := PySem.W.mg_of X G ((tab_look h.gl "moves").1 1187 (by decide +kernel))
  have g_has_form : mg "has_form" = some (.ref 1194) := PySem.W.mg_of X G ((tab_look h.gl "has_form").1 1194 (by decide +kernel))
  have g_is_possible : mg "is_possible" = some (.ref 1201) := PySem.W.mg_of X G ((tab_look h.gl "is_possible").1 1201 (by decide +kernel))
  have g_step : mg "step" = some (.ref 1208) := PySem.W.mg_of X G ((tab_look h.gl "step").1 1208 (by decide +kernel))
  have g__law_pool : mg "_law_pool" = some (.ref 1395) := PySem.W.mg_of X G ((tab_look h.gl "_law_pool").1 1395 (by decide +kernel))
  have g__law_take : mg "_law_take" = some (.ref 1402) := PySem.W.mg_of X G ((tab_look h.gl "_law_take").1 1402 (by decide +kernel))
  have g__law_one : mg "_law_one" = some (.ref 1409) := PySem.W.mg_of X G ((tab_look h.gl "_law_one").1 1409 (by decide +kernel))
  have g__law_switches : mg "_law_switches" = some (.ref 1416) := PySem.W.mg_of X G ((tab_look h.gl "_law_switches").1 1416 (by decide +kernel))
  have g__law_book : mg "_law_book" = some (.ref 1428) := PySem.W.mg_of X G ((tab_look h.gl "_law_book").1 1428 (by decide +kernel))
  have g__law_setting : mg "_law_setting" = some (.ref 1435) := PySem.W.mg_of X G ((tab_look h.gl "_law_setting").1 1435 (by decide +kernel))
  have g__law_safe_own : mg "_law_safe_own" = some (.ref 1442) := PySem.W.mg_of X G ((tab_look h.gl "_law_safe_own").1 1442 (by decide +kernel))
  have g__law_holds : mg "_law_holds" = some (.ref 1447) := PySem.W.mg_of X G ((tab_look h.gl "_law_holds").1 1447 (by decide +kernel))
  have g_law : mg "law" = some (.ref 1454) := PySem.W.mg_of X G ((tab_look h.gl "law").1 1454 (by decide +kernel))
  have g_moves_rules : mg "moves_rules" = some (.ref 1187) := PySem.W.mg_of X G ((tab_look h.gl "moves_rules").1 1187 (by decide +kernel))
  have g_StillBook : mg "StillBook" = some (.ref 723) := PySem.W.mg_of X G ((tab_look h.gl "StillBook").1 723 (by decide +kernel))
  have g_Setting : mg "Setting" = some (.ref 1052) := PySem.W.mg_of X G ((tab_look h.gl "Setting").1 1052 (by decide +kernel))
  have g_StillWorld : mg "StillWorld" = some (.ref 1155) := PySem.W.mg_of X G ((tab_look h.gl "StillWorld").1 1155 (by decide +kernel))
  have g_Bench : mg "Bench" = some (.ref 1384) := PySem.W.mg_of X G ((tab_look h.gl "Bench").1 1384 (by decide +kernel))
  have kp_is_whole : PySem.W.keepIn K (.ref 175) = true := kq_is_whole
  have kp_is_number : PySem.W.keepIn K (.ref 168) = true := kq_is_number
  have kp_values_at : PySem.W.keepIn K (.ref 194) = true := kq_values_at
  have kp_is_same : PySem.W.keepIn K (.ref 201) = true := kq_is_same
  have kp_is_value : PySem.W.keepIn K (.ref 206) = true := kq_is_value
  have kp_is_book : PySem.W.keepIn K (.ref 732) = true := kq_is_book
  have kp_look_at_book : PySem.W.keepIn K (.ref 739) = true := kq_look_at_book
  have kp_is_safe : PySem.W.keepIn K (.ref 753) = true := kq_is_safe
  have kp_look_at_setting : PySem.W.keepIn K (.ref 1063) = true := kq_look_at_setting
  have kp_first_stills : PySem.W.keepIn K (.ref 1070) = true := kq_first_stills
  have kp_is_unsafe : PySem.W.keepIn K (.ref 1166) = true := kq_is_unsafe
  have kp_world_of : PySem.W.keepIn K (.ref 1173) = true := kq_world_of
  have kp_first_state : PySem.W.keepIn K (.ref 1180) = true := kq_first_state
  have kp_moves : PySem.W.keepIn K (.ref 1187) = true := kq_moves
  have kp_has_form : PySem.W.keepIn K (.ref 1194) = true := kq_has_form
  have kp_is_possible : PySem.W.keepIn K (.ref 1201) = true := kq_is_possible
  have kp_step : PySem.W.keepIn K (.ref 1208) = true := kq_step
  have kp__law_pool : PySem.W.keepIn K (.ref 1395) = true := kq__law_pool
  have kp__law_take : PySem.W.keepIn K (.ref 1402) = true := kq__law_take
  have kp__law_one : PySem.W.keepIn K (.ref 1409) = true := kq__law_one
  have kp__law_switches : PySem.W.keepIn K (.ref 1416) = true := kq__law_switches
  have kp__law_book : PySem.W.keepIn K (.ref 1428) = true := kq__law_book
  have kp__law_setting : PySem.W.keepIn K (.ref 1435) = true := kq__law_setting
  have kp__law_safe_own : PySem.W.keepIn K (.ref 1442) = true := kq__law_safe_own
  have kp__law_holds : PySem.W.keepIn K (.ref 1447) = true := kq__law_holds
  have kp_law : PySem.W.keepIn K (.ref 1454) = true := kq_law
  have me_first_wrong : Meth K adr.CS "first_wrong" 235 := ⟨(find_mro h.cStillBook (along_miss h.cStillBook ((tab_look h.tStillBook "first_wrong").2.2 (by decide +kernel) (by decide +kernel)) (along_hit h.cBook ((tab_look h.tBook "first_wrong").1 235 (by decide +kernel))))), if_first_wrong, kq_first_wrong⟩
  have me_look_at_word : Meth K adr.CS "look_at_word" 250 := ⟨(find_mro h.cStillBook (along_miss h.cStillBook ((tab_look h.tStillBook "look_at_word").2.2 (by decide +kernel) (by decide +kernel)) (along_hit h.cBook ((tab_look h.tBook "look_at_word").1 250 (by decide +kernel))))), if_look_at_word, kq_look_at_word⟩
  have me_twin : Meth K adr.CS "twin" 652 := ⟨(find_mro h.cStillBook (along_hit h.cStillBook ((tab_look h.tStillBook "twin").1 652 (by decide +kernel)))), if_twin, kq_twin⟩
  have me_wstate : Meth K adr.CW "state" 1091 := ⟨(find_mro h.cStillWorld (along_hit h.cStillWorld ((tab_look h.tStillWorld "state").1 1091 (by decide +kernel)))), if_wstate, kq_wstate⟩
  have me_reader_deeds : Meth K adr.CW "reader_deeds" 1105 := ⟨(find_mro h.cStillWorld (along_hit h.cStillWorld ((tab_look h.tStillWorld "reader_deeds").1 1105 (by decide +kernel)))), if_reader_deeds, kq_reader_deeds⟩
  have me_taker_deeds : Meth K adr.CW "taker_deeds" 1112 := ⟨(find_mro h.cStillWorld (along_hit h.cStillWorld ((tab_look h.tStillWorld "taker_deeds").1 1112 (by decide +kernel)))), if_taker_deeds, kq_taker_deeds⟩
  have me_wmoves : Meth K adr.CW "moves" 1117 := ⟨(find_mro h.cStillWorld (along_hit h.cStillWorld ((tab_look h.tStillWorld "moves").1 1117 (by decide +kernel)))), if_wmoves, kq_wmoves⟩
  have me_wdo : Meth K adr.CW "do" 1124 := ⟨(find_mro h.cStillWorld (along_hit h.cStillWorld ((tab_look h.tStillWorld "do").1 1124 (by decide +kernel)))), if_wdo, kq_wdo⟩
  have me_reader_does : Meth K adr.CW "reader_does" 1131 := ⟨(find_mro h.cStillWorld (along_hit h.cStillWorld ((tab_look h.tStillWorld "reader_does").1 1131 (by decide +kernel)))), if_reader_does, kq_reader_does⟩
  have me_noted : Meth K adr.CW "noted" 1138 := ⟨(find_mro h.cStillWorld (along_hit h.cStillWorld ((tab_look h.tStillWorld "noted").1 1138 (by decide +kernel)))), if_noted, kq_noted⟩
  have me_looked : Meth K adr.CW "looked" 1145 := ⟨(find_mro h.cStillWorld (along_hit h.cStillWorld ((tab_look h.tStillWorld "looked").1 1145 (by decide +kernel)))), if_looked, kq_looked⟩
  have me_taker_does : Meth K adr.CW "taker_does" 1152 := ⟨(find_mro h.cStillWorld (along_hit h.cStillWorld ((tab_look h.tStillWorld "taker_does").1 1152 (by decide +kernel)))), if_taker_does, kq_taker_does⟩
  have me_nmoves : Meth K adr.CN "moves" 1265 := ⟨(find_mro h.cBench (along_hit h.cBench ((tab_look h.tBench "moves").1 1265 (by decide +kernel)))), if_nmoves, kq_nmoves⟩
  have mk_S : Mk K adr.CS 625 := ⟨(h.fact 25), (find_mro h.cStillBook (along_hit h.cStillBook ((tab_look h.tStillBook "__init__").1 625 (by decide +kernel)))), (h.fact 26), (h.fact 27)⟩
  have mk_T : Mk K adr.CT 1003 := ⟨(h.fact 28), (find_mro h.cSetting (along_hit h.cSetting ((tab_look h.tSetting "__init__").1 1003 (by decide +kernel)))), (h.fact 29), (h.fact 30)⟩
  have mk_W : Mk K adr.CW 1084 := ⟨(h.fact 31), (find_mro h.cStillWorld (along_hit h.cStillWorld ((tab_look h.tStillWorld "__init__").1 1084 (by decide +kernel)))), if_winit, (h.fact 32)⟩
  have mk_N : Mk K adr.CN 1230 := ⟨(h.fact 33), (find_mro h.cBench (along_hit h.cBench ((tab_look h.tBench "__init__").1 1230 (by decide +kernel)))), if_ninit, (h.fact 34)⟩
  have pr_way : PropOf K adr.CS "way" 243 242 := ⟨(find_mro h.cStillBook (along_miss h.cStillBook ((tab_look h.tStillBook "way").2.2 (by decide +kernel) (by decide +kernel)) (along_hit h.cBook ((tab_look h.tBook "way").1 243 (by decide +kernel))))), He.eqO_ok (h.fact 35), of_decide_eq_true (h.fact 36), prop_ok (h.fact 37)⟩
  have pr_readers : PropOf K adr.CT "readers" 1018 1017 := ⟨(find_mro h.cSetting (along_hit h.cSetting ((tab_look h.tSetting "readers").1 1018 (by decide +kernel)))), He.eqO_ok (h.fact 38), of_decide_eq_true (h.fact 39), prop_ok (h.fact 40)⟩
  have pr_takers : PropOf K adr.CT "takers" 1026 1025 := ⟨(find_mro h.cSetting (along_hit h.cSetting ((tab_look h.tSetting "takers").1 1026 (by decide +kernel)))), He.eqO_ok (h.fact 41), of_decide_eq_true (h.fact 42), prop_ok (h.fact 43)⟩
  have pr_things : PropOf K adr.CT "things" 1042 1041 := ⟨(find_mro h.cSetting (along_hit h.cSetting ((tab_look h.tSetting "things").1 1042 (by decide +kernel)))), He.eqO_ok (h.fact 44), of_decide_eq_true (h.fact 45), prop_ok (h.fact 46)⟩
  have pr_unsafe : PropOf K adr.CN "unsafe" 1310 1309 := ⟨(find_mro h.cBench (along_hit h.cBench ((tab_look h.tBench "unsafe").1 1310 (by decide +kernel)))), He.eqO_ok (h.fact 47), of_decide_eq_true (h.fact 48), prop_ok (h.fact 49)⟩
  have gi_S : IxOwn K adr.CS 278 := ⟨(find_mro h.cStillBook (along_miss h.cStillBook ((tab_look h.tStillBook "__getitem__").2.2 (by decide +kernel) (by decide +kernel)) (along_hit h.cBook ((tab_look h.tBook "__getitem__").1 278 (by decide +kernel))))), fq_getitem, if_getitem⟩
  have si_S : SetOwn K adr.CS 285 := ⟨(find_mro h.cStillBook (along_miss h.cStillBook ((tab_look h.tStillBook "__setitem__").2.2 (by decide +kernel) (by decide +kernel)) (along_hit h.cBook ((tab_look h.tBook "__setitem__").1 285 (by decide +kernel))))), (h.fact 50), if_setitem⟩
  have co_N : StX.CallO K adr.CN 1237 := ⟨(find_mro h.cBench (along_hit h.cBench ((tab_look h.tBench "__call__").1 1237 (by decide +kernel)))), if_ncall, fq_ncall⟩
  have e := hfa.symm.trans g_law
  cases e
  refine ⟨d_law, fun s v => FunD.bindsA (ps := ["_law_script"]) F_law (fun _ _ _ _ _ _ us hl => match us, hl with | [_], _ => rfl) s [v] rfl, fun base _ _ => ?_⟩
  have k_is_whole : FnOk PR w K mg base CX0 1 175 d_is_whole ["value"] (spWhole) := ok_is_whole T F_is_whole
  have c_is_whole : Cal PR w K mg base 1 "is_whole" (spWhole) := ⟨175, _, _, k_is_whole, g_is_whole, kp_is_whole, b_is_whole⟩
  have k_is_number : FnOk PR w K mg base CX0 2 168 d_is_number ["value", "low", "high"] (spNum) := ok_is_number c_is_whole F_is_number
  have c_is_number : Cal PR w K mg base 2 "is_number" (spNum) := ⟨168, _, _, k_is_number, g_is_number, kp_is_number, b_is_number⟩
  have k_values_at : FnOk PR w K mg base CX0 1 194 d_values_at ["word", "own"] (spVals K) := ok_values_at T F_values_at
  have c_values_at : Cal PR w K mg base 1 "values_at" (spVals K) := ⟨194, _, _, k_values_at, g_values_at, kp_values_at, b_values_at⟩
  have k_is_same : FnOk PR w K mg base CX0 2 201 d_is_same ["value", "one"] (spSame) := ok_is_same T c_is_whole F_is_same
  have c_is_same : Cal PR w K mg base 2 "is_same" (spSame) := ⟨201, _, _, k_is_same, g_is_same, kp_is_same, b_is_same⟩
  have k_is_value : FnOk PR w K mg base CX0 3 206 d_is_value ["word", "own"] (spIsVal) := ok_is_value c_values_at c_is_same F_is_value
  have c_is_value : Cal PR w K mg base 3 "is_value" (spIsVal) := ⟨206, _, _, k_is_value, g_is_value, kp_is_value, b_is_value⟩
  have k_first_wrong : FnOk PR w K mg base CX0 4 235 d_first_wrong ["self", "own"] (spFw adr) := ok_first_wrong T c_is_value F_first_wrong
  have m_first_wrong : Met PR w K mg base 4 adr.CS "first_wrong" (spFw adr) := ⟨235, _, _, T.clS, me_first_wrong, k_first_wrong, b_first_wrong⟩
  have k_binit : FnOk PR w K mg base CX0 5 228 d_binit ["self", "own"] (spBinit adr) := ok_binit T m_first_wrong F_binit
  have k_way : FnOk PR w K mg base CX0 1 242 d_way ["self"] (spWay adr) := ok_way T F_way
  have p_way : Prp PR w K mg base 1 adr.CS "way" (spWay adr) := ⟨243, 242, _, _, T.clS, pr_way, k_way, b_way⟩
  have k_look_at_word : FnOk PR w K mg base CX0 1 250 d_look_at_word ["self", "word"] (spLook adr) := ok_look_at_word T F_look_at_word
  have m_look_at_word : Met PR w K mg base 1 adr.CS "look_at_word" (spLook adr) := ⟨250, _, _, T.clS, me_look_at_word, k_look_at_word, b_look_at_word⟩
  have k_getitem : FnOk PR w K mg base CX0 2 278 d_getitem ["self", "word"] (spGet adr) := ok_getitem T m_look_at_word F_getitem
  have c_getitem : Gti PR w K mg base 2 adr.CS (spGet adr) := ⟨_, _, _, gi_S, k_getitem, b_getitem⟩
  have k_setitem : FnOk PR w K mg base CX0 5 285 d_setitem ["self", "word", "value"] (spSet adr) := ok_setitem T m_look_at_word m_first_wrong F_setitem
  have c_setitem : Sti PR w K mg base 5 adr.CS (spSet adr) := ⟨_, _, _, si_S, k_setitem, b_setitem⟩
  have k_sinit : FnOk PR w K mg base CX0 6 625 d_sinit psS (spSinit adr) := ok_sinit F_sinit S k_binit b_binit
  have c_StillBook : Mak PR w K mg base 6 "StillBook" adr.CS (spMk1 adr) := ⟨_, _, _, _, _, _, mk_S, k_sinit, g_StillBook, b_sinit, v_sinit, fun vs => rfl⟩
  have c_StillBookK : MaN PR w K mg base 6 "StillBook" adr.CS 1 ["still", "read", "sleep"] (spSinit adr) := ⟨_, _, _, _, mk_S, k_sinit, g_StillBook, n_sinit⟩
  have k_twin : FnOk PR w K mg base CX0 8 652 d_twin ["self"] (spTwin adr) := ok_twin T c_StillBookK F_twin
  have m_twin : Met PR w K mg base 8 adr.CS "twin" (spTwin adr) := ⟨652, _, _, T.clS, me_twin, k_twin, b_twin⟩
  have k_is_book : FnOk PR w K mg base CX0 1 732 d_is_book ["value"] (spIsBook adr) := ok_is_book T F_is_book
  have c_is_book : Cal PR w K mg base 1 "is_book" (spIsBook adr) := ⟨732, _, _, k_is_book, g_is_book, kp_is_book, b_is_book⟩
  have k_look_at_book : FnOk PR w K mg base CX0 2 739 d_look_at_book ["value"] (spLookB adr) := ok_look_at_book c_is_book F_look_at_book
  have c_look_at_book : Cal PR w K mg base 2 "look_at_book" (spLookB adr) := ⟨739, _, _, k_look_at_book, g_look_at_book, kp_look_at_book, b_look_at_book⟩
  have k_is_safe : FnOk PR w K mg base CX0 4 753 d_is_safe ["book"] (spSafe adr) := ok_is_safe c_look_at_book p_way c_getitem F_is_safe
  have c_is_safe : Cal PR w K mg base 4 "is_safe" (spSafe adr) := ⟨753, _, _, k_is_safe, g_is_safe, kp_is_safe, b_is_safe⟩
  have k_tinit : FnOk PR w K mg base CX0 9 1003 d_tinit ["self", "book", "readers", "takers", "steppers", "things"] (spTinit adr) := ok_tinit T c_look_at_book p_way c_is_number m_twin F_tinit
  obtain ⟨i_tinit, n_tinit⟩ := FunD.kbindsD (ps := ["self", "book", "readers", "takers", "steppers", "things"]) F_tinit 5 ["things"] (fun us _ ws => us ++ ws) (by simp) (fun r1 _ r3 => r1.append r3) (fun T kV doc pm an cdv ct us its ws h1 h2 h3 => match us, h1, its, h2, ws, h3 with | [_, _, _, _, _], _, [_, _, _], _, [_], _ => ⟨_, rfl, rfl⟩)
  have c_SettingK : MaN PR w K mg base 9 "Setting" adr.CT 4 ["things"] (spTinit adr) := ⟨_, _, _, _, mk_T, k_tinit, g_Setting, n_tinit⟩
  have k_readers : FnOk PR w K mg base CX0 1 1017 d_readers ["self"] (spReaders adr) := ok_readers T F_readers
  have p_readers : Prp PR w K mg base 1 adr.CT "readers" (spReaders adr) := ⟨1018, 1017, _, _, T.clT, pr_readers, k_readers, b_readers⟩
  have k_takers : FnOk PR w K mg base CX0 1 1025 d_takers ["self"] (spTakers adr) := ok_takers T F_takers
  have p_takers : Prp PR w K mg base 1 adr.CT "takers" (spTakers adr) := ⟨1026, 1025, _, _, T.clT, pr_takers, k_takers, b_takers⟩
  have k_things : FnOk PR w K mg base CX0 1 1041 d_things ["self"] (spThings adr) := ok_things T F_things
  have p_things : Prp PR w K mg base 1 adr.CT "things" (spThings adr) := ⟨1042, 1041, _, _, T.clT, pr_things, k_things, b_things⟩
  have k_look_at_setting : FnOk PR w K mg base CX0 1 1063 d_look_at_setting ["value"] (spLookS adr) := ok_look_at_setting T F_look_at_setting
  have c_look_at_setting : Cal PR w K mg base 1 "look_at_setting" (spLookS adr) := ⟨1063, _, _, k_look_at_setting, g_look_at_setting, kp_look_at_setting, b_look_at_setting⟩
  have k_first_stills : FnOk PR w K mg base CX0 3 1070 d_first_stills ["setting"] (spFirst adr) := ok_first_stills T p_readers p_takers F_first_stills
  have c_first_stills : Cal PR w K mg base 3 "first_stills" (spFirst adr) := ⟨1070, _, _, k_first_stills, g_first_stills, kp_first_stills, b_first_stills⟩
  have k_winit : FnOk PR w K mg base CX0 1 1084 d_winit ["self", "setting", "state"] (spWinit adr) := ok_winit T F_winit
  have c_StillWorld : Mak PR w K mg base 1 "StillWorld" adr.CW (spWinit adr) := ⟨_, _, _, _, _, _, mk_W, k_winit, g_StillWorld, b_winit, .nil, fun vs => by rw [List.append_nil]⟩
  have k_wstate : FnOk PR w K mg base CX0 1 1091 d_wstate ["self"] (spWstate adr) := ok_wstate T F_wstate
  have m_wstate : Met PR w K mg base 1 adr.CW "state" (spWstate adr) := ⟨1091, _, _, T.clW, me_wstate, k_wstate, b_wstate⟩
  have k_reader_deeds : FnOk PR w K mg base CX0 1 1105 d_reader_deeds ["self", "reader"] (spRdeeds K adr) := ok_reader_deeds T F_reader_deeds
  have m_reader_deeds : Met PR w K mg base 1 adr.CW "reader_deeds" (spRdeeds K adr) := ⟨1105, _, _, T.clW, me_reader_deeds, k_reader_deeds, b_reader_deeds⟩
  have k_taker_deeds : FnOk PR w K mg base CX0 3 1112 d_taker_deeds ["self", "taker"] (spTdeeds K adr) := ok_taker_deeds T p_things F_taker_deeds
  have m_taker_deeds : Met PR w K mg base 3 adr.CW "taker_deeds" (spTdeeds K adr) := ⟨1112, _, _, T.clW, me_taker_deeds, k_taker_deeds, b_taker_deeds⟩
  have k_wmoves : FnOk PR w K mg base CX0 4 1117 d_wmoves ["self"] (spMoves adr) := ok_wmoves T m_reader_deeds m_taker_deeds F_wmoves
  have m_wmoves : Met PR w K mg base 4 adr.CW "moves" (spMoves adr) := ⟨1117, _, _, T.clW, me_wmoves, k_wmoves, b_wmoves⟩
  have k_reader_does : FnOk PR w K mg base CX0 1 1131 d_reader_does ["self", "k", "deed"] (spRdoes adr) := ok_reader_does T F_reader_does
  have m_reader_does : Met PR w K mg base 1 adr.CW "reader_does" (spRdoes adr) := ⟨1131, _, _, T.clW, me_reader_does, k_reader_does, b_reader_does⟩
  have k_noted : FnOk PR w K mg base CX0 1 1138 d_noted ["self", "at", "noted"] (spNoted adr) := ok_noted T F_noted
  have m_noted : Met PR w K mg base 1 adr.CW "noted" (spNoted adr) := ⟨1138, _, _, T.clW, me_noted, k_noted, b_noted⟩
  have k_looked : FnOk PR w K mg base CX0 1 1145 d_looked ["self", "at", "noted"] (spLooked adr) := ok_looked T F_looked
  have m_looked : Met PR w K mg base 1 adr.CW "looked" (spLooked adr) := ⟨1145, _, _, T.clW, me_looked, k_looked, b_looked⟩
  have k_taker_does : FnOk PR w K mg base CX0 2 1152 d_taker_does ["self", "k", "deed"] (spTdoes adr) := ok_taker_does T m_noted m_looked F_taker_does
  have m_taker_does : Met PR w K mg base 2 adr.CW "taker_does" (spTdoes adr) := ⟨1152, _, _, T.clW, me_taker_does, k_taker_does, b_taker_does⟩
  have k_wdo : FnOk PR w K mg base CX0 3 1124 d_wdo ["self", "move"] (spDo adr) := ok_wdo T m_reader_does m_taker_does F_wdo
  have m_wdo : Met PR w K mg base 3 adr.CW "do" (spDo adr) := ⟨1124, _, _, T.clW, me_wdo, k_wdo, b_wdo⟩
  have k_is_unsafe : FnOk PR w K mg base CX0 1 1166 d_is_unsafe ["state"] (spUns) := ok_is_unsafe  F_is_unsafe
  have c_is_unsafe : Cal PR w K mg base 1 "is_unsafe" (spUns) := ⟨1166, _, _, k_is_unsafe, g_is_unsafe, kp_is_unsafe, b_is_unsafe⟩
  have k_world_of : FnOk PR w K mg base CX0 3 1173 d_world_of ["setting", "state"] (spWorld adr) := ok_world_of T p_way c_StillWorld F_world_of
  have c_world_of : Cal PR w K mg base 3 "world_of" (spWorld adr) := ⟨1173, _, _, k_world_of, g_world_of, kp_world_of, b_world_of⟩
  have k_first_state : FnOk PR w K mg base CX0 4 1180 d_first_state ["setting"] (spFirst adr) := ok_first_state T c_look_at_setting p_way c_first_stills F_first_state
  have c_first_state : Cal PR w K mg base 4 "first_state" (spFirst adr) := ⟨1180, _, _, k_first_state, g_first_state, kp_first_state, b_first_state⟩
  have k_moves : FnOk PR w K mg base CX0 5 1187 d_moves ["setting", "state"] (spMvs adr) := ok_rmoves T c_look_at_setting c_is_unsafe c_world_of m_wmoves F_moves
  have c_moves_rules : Cal PR w K mg base 5 "moves_rules" (spMvs adr) := ⟨1187, _, _, k_moves, g_moves_rules, kp_moves, b_moves⟩
  have k_has_form : FnOk PR w K mg base CX0 1 1194 d_has_form ["move"] (spForm) := ok_has_form T F_has_form
  have c_has_form : Cal PR w K mg base 1 "has_form" (spForm) := ⟨1194, _, _, k_has_form, g_has_form, kp_has_form, b_has_form⟩
  have k_is_possible : FnOk PR w K mg base CX0 6 1201 d_is_possible ["setting", "state", "move"] (spPoss adr) := ok_is_possible c_has_form c_moves_rules F_is_possible
  have c_is_possible : Cal PR w K mg base 6 "is_possible" (spPoss adr) := ⟨1201, _, _, k_is_possible, g_is_possible, kp_is_possible, b_is_possible⟩
  have k_step : FnOk PR w K mg base CX0 7 1208 d_step ["setting", "state", "move"] (spStep adr) := ok_step c_look_at_setting c_is_possible c_world_of m_wdo m_wstate F_step
  have c_step : Cal PR w K mg base 7 "step" (spStep adr) := ⟨1208, _, _, k_step, g_step, kp_step, b_step⟩
  have k_ninit : FnOk PR w K mg base CX0 5 1230 d_ninit ["self", "setting"] (spNinit adr) := ok_ninit T c_look_at_setting c_first_state F_ninit
  have c_Bench : Mak PR w K mg base 5 "Bench" adr.CN (spNinit adr) := ⟨_, _, _, _, _, _, mk_N, k_ninit, g_Bench, b_ninit, .nil, fun vs => by rw [List.append_nil]⟩
  have k_ncall : FnOk PR w K mg base CX0 8 1237 d_ncall ["self", "move"] (spNcall adr) := ok_ncall T c_is_possible c_step F_ncall
  have c_call : Clo PR w K mg base 8 adr.CN (spNcall adr) := ⟨_, _, _, co_N, k_ncall, b_ncall⟩
  have k_nmoves : FnOk PR w K mg base CX0 6 1265 d_nmoves ["self"] (spNmoves adr) := ok_nmoves T c_moves_rules F_nmoves
  have m_nmoves : Met PR w K mg base 6 adr.CN "moves" (spNmoves adr) := ⟨1265, _, _, T.clN, me_nmoves, k_nmoves, b_nmoves⟩
  have k_nunsafe : FnOk PR w K mg base CX0 2 1309 d_nunsafe ["self"] (spNunsafe adr) := ok_nunsafe T c_is_unsafe F_nunsafe
  have p_unsafe : Prp PR w K mg base 2 adr.CN "unsafe" (spNunsafe adr) := ⟨1310, 1309, _, _, T.clN, pr_unsafe, k_nunsafe, b_nunsafe⟩
  have k__law_pool : FnOk PR w K mg base CX0 1 1395 d__law_pool ["_law_script", "_law_k"] (spPool K) := ok_law_pool T F__law_pool
  have c__law_pool : Cal PR w K mg base 1 "_law_pool" (spPool K) := ⟨1395, _, _, k__law_pool, g__law_pool, kp__law_pool, b__law_pool⟩
  have k__law_take : FnOk PR w K mg base CX0 1 1402 d__law_take ["_law_pool_here", "_law_many"] (spTake) := ok_law_take T F__law_take
  have c__law_take : Cal PR w K mg base 1 "_law_take" (spTake) := ⟨1402, _, _, k__law_take, g__law_take, kp__law_take, b__law_take⟩
  have k__law_one : FnOk PR w K mg base CX0 2 1409 d__law_one ["_law_pool_here", "_law_some"] (spOne) := ok_law_one T c__law_take F__law_one
  have c__law_one : Cal PR w K mg base 2 "_law_one" (spOne) := ⟨1409, _, _, k__law_one, g__law_one, kp__law_one, b__law_one⟩
  have k__law_switches : FnOk PR w K mg base CX0 1 1416 d__law_switches ["_law_way"] (spSw) := ok_law_switches  F__law_switches
  have c__law_switches : Cal PR w K mg base 1 "_law_switches" (spSw) := ⟨1416, _, _, k__law_switches, g__law_switches, kp__law_switches, b__law_switches⟩
  have k__law_book : FnOk PR w K mg base CX0 8 1428 d__law_book ["_law_own"] (spBook adr) := ok_law_book c_StillBook c__law_switches c_setitem F__law_book
  have c__law_book : Cal PR w K mg base 8 "_law_book" (spBook adr) := ⟨1428, _, _, k__law_book, g__law_book, kp__law_book, b__law_book⟩
  have k__law_setting : FnOk PR w K mg base CX0 11 1435 d__law_setting ["_law_own"] (spSetting adr) := ok_law_setting c_SettingK c__law_book F__law_setting
  have c__law_setting : Cal PR w K mg base 11 "_law_setting" (spSetting adr) := ⟨1435, _, _, k__law_setting, g__law_setting, kp__law_setting, b__law_setting⟩
  have k__law_safe_own : FnOk PR w K mg base CX0 3 1442 d__law_safe_own ["_law_pool_here"] (spSafeOwn) := ok_law_safe_own c__law_take c__law_one F__law_safe_own
  have c__law_safe_own : Cal PR w K mg base 3 "_law_safe_own" (spSafeOwn) := ⟨1442, _, _, k__law_safe_own, g__law_safe_own, kp__law_safe_own, b__law_safe_own⟩
  have k__law_holds : FnOk PR w K mg base CX0 4 1447 d__law_holds ["_law_bench", "_law_state"] (spHolds adr) := ok_law_holds T p_unsafe F__law_holds
  have c__law_holds : Cal PR w K mg base 4 "_law_holds" (spHolds adr) := ⟨1447, _, _, k__law_holds, g__law_holds, kp__law_holds, b__law_holds⟩
  exact ok_law T c__law_pool c__law_safe_own c__law_book c_is_safe c__law_setting c_Bench m_nmoves c_call c__law_holds F_law
end Ep
open PySem PySem.W PySem.Calls PyProof.Rows in
set_option maxRecDepth 100000 in
set_option maxHeartbeats 0 in
theorem PySem.Challenge.cw_epochrooms_k49_whole_safe_still_points_h_holds : PySem.Challenge.rw_epochrooms_k49_whole_safe_still_points_h.Holds := by
  w_on; o_law
  refine HandSHeadRun.head_any (r := OpenLaw.row PySem.Challenge.rw_epochrooms_k49_whole_safe_still_points_h) (q := view (OpenLaw.row PySem.Challenge.rw_epochrooms_k49_whole_safe_still_points_h).prog [72]) (H := Ep.look) (ob := Ep.lookT) (M := 30000) (loose := EpH.names) (d := HandSHeadRun.topDef (OpenLaw.row PySem.Challenge.rw_epochrooms_k49_whole_safe_still_points_h).prog 72) (kwd := []) Ep.lookT_eq
    (by kernel_rfl) (fun s => by kernel_rfl) EpH.run (by kernel_rfl) (by kernel_rfl) (by kernel_rfl) (by rfl) (by first | assumption | decide +kernel) (by decide +kernel) ⟨rfl, rfl, rfl, rfl, rfl, by decide +kernel⟩ ?hw ?hc
  case hw => w_witness2
  case hc =>
    refine L2.walk_ofE (l := PySem.Challenge.rw_epochrooms_k49_whole_safe_still_points_h) (n := 63) (k := 13) (x := "_law_script") (CX := L2.CX0) rfl (by decide) (by kernel_rfl) ⟨rfl, by decide, by decide⟩ ?F (fun _ _ _ _ z => z)
    intro w mg fa h Y G hmg0
    obtain ⟨K, KX, c⟩ := Y
    have hmg : mg ("law" : PySem.Str) = some (.ref fa) := by
      have e : (HandSHeadRun.topDef (OpenLaw.row PySem.Challenge.rw_epochrooms_k49_whole_safe_still_points_h).prog 72).name = ("law" : PySem.Str) := by kernel_rfl
      rw [← e]
      exact hmg0
    obtain ⟨fd, hb, hF⟩ := Ep.facts_law (w := w) KX G hmg c
    exact ⟨K, fd, Ep.spLaw K, KX, hb, fun H a ns hl _ hS => ⟨a, ns, rfl, hS, hl, fun _ => rfl⟩, hF⟩
