import PyProof.Rows.All
import Wide.All
import OpenK.AllK
import Wide.FinOn
import HandS.ForMost
import HandS.Defaults
import HandS.MakeKwOnly
import HandS.IsInst
import HandS.Lambda
import HandS.Walk
import PySem.Challenge.RW_guestsalone_k27_whole_quiet_and_noisy
import HandS.Conv
import HandS.Nested
import HandS.SortKw
import KE.DataMinKey
import KE.KStateDown
import Lean
import HandS.Head0
import HandS.Head1
import HandS.Head2
import HandS.HeadEnd
import HandS.HeadHook1
import HandS.HeadHook2
import HandS.HeadHook3
import HandS.HeadHook4
import HandS.EndTab
import HandS.HeadWalk
set_option Elab.async false
set_option linter.all false
/-! Base: the text by places, heaps and regions, own rules. -/
namespace GA
set_option maxRecDepth 100000
set_option maxHeartbeats 4000000
open PySem PySem.Spec PyProof.Rows L2
/-! ### the text by places -/
def top (i : Nat) : Stmt := PySem.Challenge.pw_guestsalone_k27_whole_quiet_and_noisy.main.body.getD i (.Pass ⟨0, 0, 0, 0⟩)
abbrev sIsWhole : Stmt := top 14
abbrev sIsName : Stmt := top 15
abbrev sNeedLen : Stmt := top 20
abbrev sNeedShare : Stmt := top 21
abbrev sPInit : Stmt := inClass (top 22) 0
abbrev sPBegin : Stmt := inClass (top 22) 1
abbrev sSInit : Stmt := inClass (top 23) 0
abbrev sNeedGuest : Stmt := inClass (top 23) 1
abbrev sNeedRoom : Stmt := inClass (top 23) 2
abbrev sCome : Stmt := inClass (top 23) 3
abbrev sGo : Stmt := inClass (top 23) 4
abbrev sChange : Stmt := inClass (top 23) 5
abbrev sPromisedOne : Stmt := inClass (top 23) 6
abbrev sFreeOne : Stmt := inClass (top 23) 7
abbrev sDeal : Stmt := inClass (top 23) 8
abbrev sLength : Stmt := inClass (top 23) 9
abbrev sNames : Stmt := inClass (top 23) 10
abbrev sPromise : Stmt := inClass (top 23) 11
abbrev sPromised : Stmt := inClass (top 23) 16
abbrev sDealt : Stmt := inClass (top 23) 17
abbrev sLCell : Stmt := top 25
abbrev sLBox : Stmt := top 26
abbrev sLTake : Stmt := top 27
abbrev sLNames : Stmt := top 28
abbrev sLShare : Stmt := top 30
abbrev sLOthers : Stmt := top 31
abbrev sLGot : Stmt := top 32
abbrev sLGaps : Stmt := top 33
abbrev sLKept : Stmt := top 34
abbrev sLaw : Stmt := top 35
/-! ### defs as they stand behind the top, called by name -/
abbrev FnP (K : PySem.W.Frag) (x qual : Str) (st : Stmt) (f : Addr) (fd : FuncData) : Prop := FunD K x qual (defArgs st) (defBody st) (defScope st) [] [] f fd
section
variable {P : Program} {w : World} {K : PySem.W.Frag} {mg : Str → Option Value} {base : Heap}
theorem fn_ok {x qual : Str} {params : Arguments} {body : List Stmt} {scope : Scope} {dvs : List V} {kws : List (Str × V)} {f : Addr} {fd : FuncData} {N ps : List Str} {k : Nat} {sp : Sp} (F : FunD K x qual params body scope dvs kws f fd) (S : FnScope N ps scope) (len : ∀ vs H Q E, sp vs H Q E → vs.length = ps.length)
    (hbody : ∀ (cdv : Value) (A : Around) (outer : List Env) (s : Shared) (H : Hp) (vs : List V) (Q : VK) (E : XK), Room k (A.deeper (envOfC qual scope s.heap.objs.size f cdv)) → sp vs H Q E →
      ∃ t, PSs (cxOf CX0 P w K mg base N qual scope f cdv A outer s H E).nox body t ∧ t { nx := fun _ H' => Q .non H', rt := Q } (start N vs) H) : FnOk P w K mg base CX0 (k + 1) f fd ps sp :=
  F.ok S len fun cdv A outer s H vs Q E hr hsp =>
    let ⟨t, h, q⟩ := hbody cdv A outer s H vs Q E hr hsp
    ⟨t, h.nox, q⟩
end
/-- a module's function by its name -/
def GFn (P : Program) (w : World) (K : PySem.W.Frag) (mg : Str → Option Value) (base : Heap) (k : Nat) (x : Str) (ps : List Str) (sp : Sp) : Prop :=
  ∃ (f : Addr) (fd : FuncData), FnOk P w K mg base CX0 k f fd ps sp ∧ Binds K fd ps [] ∧ mg x = some (.ref f) ∧ PySem.W.keepIn K (.ref f) = true
/-- a method by its class and name -/
def MFn (P : Program) (w : World) (K : PySem.W.Frag) (mg : Str → Option Value) (base : Heap) (k : Nat) (C : Addr) (m : Str) (ps : List Str) (sp : Sp) : Prop :=
  ∃ (f : Addr) (fd : FuncData), FnOk P w K mg base CX0 k f fd ps sp ∧ Binds K fd ps [] ∧ Meth K C m f
section
variable {X : Cx} {x m : Str} {k j : Nat} {ps : List Str} {sp : Sp} {e o : Expr} {es : List Expr} {t : TA} {ta : TE} {p pos apos : Pos} {C : Addr}
theorem gcall (G : GFn X.prog X.w X.K X.mg X.base k x ps sp) (hr : Room j X.A) (hj : k ≤ j) (hg : Gl X x) (ha : PA X (e :: es) t) (hdb : (x == ("__debug__" : Str)) = false := by decide)
    (he : starEach (e :: es) X.env = (false, eval e X.env) :: starEach es X.env := by rfl) (hpl : (backTo pos (starEach es X.env)).any (·.1) = false := by rfl) :
    PE X (.Call (.Name x p) (e :: es) [] pos) (tCall sp [] E0 t) := by
  obtain ⟨f, fd, F, b, hm, kp⟩ := G
  exact pe_call F (hr.mono hj) hg hm kp b .nil pass0 ha hdb he hpl
theorem mcall {pl : Sem Bool} (G : MFn X.prog X.w X.K X.mg X.base k C m ps sp) (hr : Room j X.A) (hj : k ≤ j) (ho : PE X o ta) (c : Cls X.K C) (ha : PA X (e :: es) t)
    (hst : starEach (e :: es) X.env = (false, eval e X.env) :: starEach es X.env := by rfl) (hpl : (backTo pos (starEach es X.env)).any (·.1) = false := by rfl)
    (ht : eval (.Call (.Attribute o m apos) (e :: es) [] pos) X.env = (do
      let ov ← eval o X.env
      standAt apos.atName
      let (f, first) ← holding [ov] (getMethod ov m pl)
      callWith pos f first (backTo pos (starEach (e :: es) X.env)) (backToKw pos (keywordEach [] X.env))) := by rfl) :
    PE X (.Call (.Attribute o m apos) (e :: es) [] pos) (tMeth C m sp [] E0 ta t) := by
  obtain ⟨f, fd, F, b, hm⟩ := G
  exact pe_meth ho c hm F (hr.mono hj) b .nil pass0 ha hst hpl ht
theorem mcall0 {pl : Sem Bool} (G : MFn X.prog X.w X.K X.mg X.base k C m ps sp) (hr : Room j X.A) (hj : k ≤ j) (ho : PE X o ta) (c : Cls X.K C)
    (ht : eval (.Call (.Attribute o m apos) [] [] pos) X.env = (do
      let ov ← eval o X.env
      standAt apos.atName
      let (f, first) ← holding [ov] (getMethod ov m pl)
      callWith pos f first (backTo pos (starEach [] X.env)) (backToKw pos (keywordEach [] X.env))) := by rfl) :
    PE X (.Call (.Attribute o m apos) [] [] pos) (tMeth C m sp [] E0 ta tNil) := by
  obtain ⟨f, fd, F, b, hm⟩ := G
  exact pe_meth0 ho c hm F (hr.mono hj) b .nil pass0 ht
end
/-! ### o.f = .. as a target among several; o.m(e, k = v) -/
def gFld (K : PySem.W.Frag) (to : TE) (f : Str) : TG := fun v σ H Q => to σ H fun x H1 => ∃ a C dx fs, x = V.ref a ∧ H1 a = some (.ins C dx fs) ∧ Cls K C ∧ NoAttr K C f ∧ fs.length < 1000 ∧ Q σ (upd H1 a (.ins C dx (putF f v fs)))
theorem pg_fld {X : Cx} {o : Expr} {f : Str} {to : TE} {pos : Pos} (ho : PE X o to)
    (ha : ∀ v, assign (.Attribute o f pos) X.env v = (do
      let ov ← holding [v] (eval o X.env)
      standAt pos.atName
      holding [v, ov] (setAttr ov f v)
      release [v, ov] []) := by intro _; rfl) : PG X (.Attribute o f pos) (gFld X.K to f) := by
  refine ⟨fun pins s σ H v u Q I r h => ?_⟩
  rw [ha]
  refine wpAny_bind (wpAny_holding (thn (ho.run pins s σ H _ I h) fun ov s1 ⟨x, H1, I1, r1, a, C, dx, fs, ex, ea, c, n, l, q⟩ => ?_))
  subst ex
  obtain rfl : ov = Value.ref a := r1
  refine wpAny_bind (wpAny_standAt (wpAny_bind (wpAny_holding (setattr_ok I1 ea c n l r fun s2 I2 => ?_))))
  exact wpAny_release ⟨σ, _, I2, q⟩
def tMethN (C : Addr) (m : Str) (n mm : Nat) (sp : Sp) (gV : List V → List V → List V) (E : XK) (ta : TE) (t tk : TA) : TE := fun σ H Q => ta σ H fun x H1 => ∃ a dx fs, x = V.ref a ∧ H1 a = some (.ins C dx fs) ∧ fs.lookup m = none ∧
  t σ H1 fun vs H2 => tk σ H2 fun zs H3 => vs.length = n ∧ zs.length = mm ∧ sp (gV (x :: vs) zs) H3 Q E
theorem pe_methN {X : Cx} {CX : CXT} {k n : Nat} {f C : Addr} {fd : FuncData} {ps ks : List Str} {sp : Sp} {E : XK} {m : Str} {pos apos : Pos} {e o : Expr} {es : List Expr} {kws : List Keyword} {ta : TE} {t tk : TA} {g : List Value → List Value → List Value} {gV : List V → List V → List V} {pl : Sem Bool}
    (he : PE X o ta) (c : Cls X.K C) (hm : Meth X.K C m f) (F : FnOk X.prog X.w X.K X.mg X.base CX k f fd ps sp) (hr : Room k X.A) (hb : KBn X.K fd ps (n + 1) ks g gV) (hx : Passes CX X E) (ha : PA X (e :: es) t) (hkw : PK X kws tk)
    (hall : (backToKw pos (keywordEach kws X.env)).all (·.1.isSome) = true := by rfl) (hks : (backToKw pos (keywordEach kws X.env)).filterMap (·.1) = ks := by rfl)
    (hst : starEach (e :: es) X.env = (false, eval e X.env) :: starEach es X.env := by rfl)
    (hpl : ((backTo pos (starEach (e :: es) X.env)).any (·.1) || (backToKw pos (keywordEach kws X.env)).any (·.1.isNone)) = false := by rfl)
    (ht : eval (.Call (.Attribute o m apos) (e :: es) kws pos) X.env = (do
      let ov ← eval o X.env
      standAt apos.atName
      let (f, first) ← holding [ov] (getMethod ov m pl)
      callWith pos f first (backTo pos (starEach (e :: es) X.env)) (backToKw pos (keywordEach kws X.env))) := by rfl) :
    PE X (.Call (.Attribute o m apos) (e :: es) kws pos) (tMethN C m n ks.length sp gV E ta t tk) := by
  refine ⟨fun pins s σ H Q I h => ?_⟩
  refine PySem.W.methodCall_KW (pl := pl) (thn (he.run pins s σ H _ I h) fun u s1 ⟨x, H1, I1, rx, a, dx, fs, ex, ea, l, q⟩ => ?_) ht
  subst ex
  obtain rfl : u = Value.ref a := rx
  refine getmeth_ok I1 ea c hm l ?_
  refine PySem.W.callWith_KW (first := [.ref a]) (h₀ := X.base) I.ok.mod.kin hm.kp hall (thn (ha.run pos pins s1 σ H1 _ I1 q) fun us s2 ⟨vs, H2, I2, r, q2⟩ => ?_) hpl hst
  refine thn (hkw.run pos pins s2 σ H2 _ I2 q2) fun ws s3 ⟨zs, H3, I3, rz, l1, l2, q3⟩ => ⟨I3.kIn, ?_⟩
  rw [hks]
  exact run_fnN (us := .ref a :: us) (vs := .ref a :: vs) F hr hb hx I3 (.cons rfl r) rz (by rw [List.length_cons, l1]) l2 q3
/-! ### regions: U is what a def may change; what is outside stays -/
def Frm (U : Addr → Prop) (H : Hp) (U' : Addr → Prop) (H' : Hp) : Prop := (∀ a o, H a = some o → ¬ U a → H' a = some o) ∧ ∀ a, U' a → U a ∨ H a = none
def Lo (U : Addr → Prop) (H : Hp) (a : Addr) (o : HO) : Prop := H a = some o ∧ ¬ U a
def Dm (U : Addr → Prop) (H : Hp) : Prop := ∀ a, U a → ∃ o, H a = some o
section
variable {U U' U2 U0 : Addr → Prop} {H H' H2 H0 : Hp} {a b : Addr} {o u : HO}
theorem Frm.refl : Frm U H U H := ⟨fun _ _ h _ => h, fun _ h => .inl h⟩
theorem Frm.trans (f : Frm U H U' H') (g : Frm U' H' U2 H2) : Frm U H U2 H2 := by
  refine ⟨fun a o h n => g.1 a o (f.1 a o h n) fun h' => ?_, fun a h => ?_⟩
  · rcases f.2 a h' with q | q
    · exact n q
    · rw [h] at q
      cases q
  · rcases g.2 a h with q | q
    · exact f.2 a q
    · by_cases hu : U a
      · exact .inl hu
      · cases e : H a with
        | none => exact .inr rfl
        | some o =>
          rw [f.1 a o e hu] at q
          cases q
theorem Frm.same (s : Same H H') : Frm U H U H' := ⟨fun a o h _ => s a o h, fun _ h => .inl h⟩
theorem same_new (n : H a = none) : Same H (upd H a o) := fun b u h => by rw [upd_ne (ne_of_none h n)]; exact h
theorem Frm.new (f : Frm U0 H0 U H) (n : H a = none) : Frm U0 H0 U (upd H a o) := f.trans (.same (same_new n))
theorem Frm.wr (f : Frm U0 H0 U H) (h : U a) : Frm U0 H0 U (upd H a o) := f.trans ⟨fun b u e n => by
  rw [upd_ne (show b ≠ a from fun z => n (by rw [z]; exact h))]
  exact e, fun _ h => .inl h⟩
/-- an own object, made since the entry, is written -/
theorem Frm.loc (f : Frm U0 H0 U H) (n : H0 a = none) : Frm U0 H0 U (upd H a o) := ⟨fun b u e q => by
  rw [upd_ne (ne_of_none e n)]
  exact f.1 b u e q, f.2⟩
theorem Frm.free (f : Frm U0 H0 U H) (d : ¬ U0 a) (n : H a = none) : H0 a = none := by
  cases e : H0 a with
  | none => rfl
  | some o =>
    rw [f.1 a o e d] at n
    cases n
/-- a greater region -/
theorem Frm.mono (f : Frm U H U' H') (h : ∀ a, U a → U2 a) (h' : ∀ a, U0 a → U' a ∨ U2 a) : Frm U2 H U0 H' := ⟨fun a o e n => f.1 a o e fun q => n (h a q), fun a q => by
  rcases h' a q with z | z
  · rcases f.2 a z with y | y
    · exact .inl (h a y)
    · exact .inr y
  · exact .inl z⟩
theorem Lo.frm (l : Lo U H a o) (f : Frm U H U' H') : Lo U' H' a o := ⟨f.1 a o l.1 l.2, fun h => by
  rcases f.2 a h with q | q
  · exact l.2 q
  · rw [l.1] at q
    cases q⟩
theorem Lo.new (d : Dm U H) (n : H a = none) : Lo U (upd H a o) a o := ⟨upd_same, fun h => by
  obtain ⟨u, e⟩ := d a h
  rw [n] at e
  cases e⟩
theorem Dm.not (d : Dm U H) (n : H a = none) : ¬ U a := fun h => by
  obtain ⟨u, e⟩ := d a h
  rw [n] at e
  cases e
theorem Dm.upd (d : Dm U H) : Dm U (upd H a o) := fun b h => by
  by_cases e : b = a
  · exact ⟨o, by rw [e, upd_same]⟩
  · obtain ⟨u, q⟩ := d b h
    exact ⟨u, by rw [upd_ne e]; exact q⟩
theorem Dm.same (d : Dm U H) (s : Same H H') : Dm U H' := fun b h => by
  obtain ⟨u, q⟩ := d b h
  exact ⟨u, s b u q⟩
end
/-! ### the drawn number's box -/
def BoxAt (H : Hp) (b : Addr) (c : Int) : Prop := ∃ x y z : Int, H b = some (.lst [.int x, .int y, .int z]) ∧ 0 ≤ x ∧ 0 ≤ y ∧ y < 2147483629 ∧ 0 ≤ z ∧ z ≤ c
/-- all but the object at b is as it was -/
def But (b : Addr) (H H' : Hp) : Prop := ∀ a o, H a = some o → a ≠ b → H' a = some o
theorem BoxAt.mono {H : Hp} {b : Addr} {c d : Int} (h : BoxAt H b c) (l : c ≤ d) : BoxAt H b d := by
  obtain ⟨x, y, z, e, h1, h2, h3, h4, h5⟩ := h
  exact ⟨x, y, z, e, h1, h2, h3, h4, by omega⟩
theorem BoxAt.at_ {H H' : Hp} {b : Addr} {c : Int} (h : BoxAt H b c) (k : ∀ o, H b = some o → H' b = some o) : BoxAt H' b c := by
  obtain ⟨x, y, z, e, h1⟩ := h
  exact ⟨x, y, z, k _ e, h1⟩
theorem But.refl {b : Addr} {H : Hp} : But b H H := fun _ _ h _ => h
theorem But.trans {b : Addr} {H H1 H2 : Hp} (f : But b H H1) (g : But b H1 H2) : But b H H2 := fun a o h n => g a o (f a o h n) n
theorem But.new {b a : Addr} {H H1 : Hp} {o : HO} (f : But b H H1) (n : H1 a = none) : But b H (upd H1 a o) := fun c u h q => same_new n c u (f c u h q)
theorem But.loc {b a : Addr} {H H1 : Hp} {o : HO} (f : But b H H1) (n : H a = none) : But b H (upd H1 a o) := fun c u h q => by
  rw [upd_ne (ne_of_none h n)]
  exact f c u h q
theorem But.frm {b : Addr} {H H1 : Hp} (f : But b H H1) : Frm (· = b) H (· = b) H1 := ⟨fun a o h n => f a o h n, fun _ h => .inl h⟩
theorem But.free {b a : Addr} {H H1 : Hp} (f : But b H H1) (d : a ≠ b) (n : H1 a = none) : H a = none := by
  cases e : H a with
  | none => rfl
  | some o =>
    rw [f a o e d] at n
    cases n
end GA
namespace GA
set_option maxRecDepth 100000
set_option maxHeartbeats 4000000
open PySem PySem.Spec PyProof.Rows L2
/-! ### _law_take -/
def spTake : Sp := fun vs H Q _ => ∃ (b : Addr) (c n : Int), vs = [.ref b, .int n] ∧ BoxAt H b c ∧ c ≤ 2 ^ 40 ∧ 1 ≤ n ∧ n < 1073741824 ∧
  ∀ (d : Int) (H' : Hp), 0 ≤ d → d < n → BoxAt H' b (c + 1) → But b H H' → Q (.int d) H'
theorem fmod_lo {i j : Int} (hj : 0 < j) : 0 ≤ i.fmod j := Int.fmod_nonneg_of_pos i hj
theorem fmod_hi {i j : Int} (hj : 0 < j) : i.fmod j < j := Int.fmod_lt_of_pos i hj
theorem a0 {x y z : V} : atI [x, y, z] 0 = some x := at_of (j := 0) rfl rfl
theorem a1 {x y z : V} : atI [x, y, z] 1 = some y := at_of (j := 1) rfl rfl
theorem a2 {x y z : V} : atI [x, y, z] 2 = some z := at_of (j := 2) rfl rfl
theorem but_at {b : Addr} {H : Hp} {o : HO} : But b H (upd H b o) := fun a u h n => by rw [upd_ne n]; exact h
section
variable {P : Program} {w : World} {K : PySem.W.Frag} {mg : Str → Option Value} {base : Heap}
theorem scTake : FnScope ["_law_box_here", "_law_size", "_law_digit", "_law_one", "_law_two"] ["_law_box_here", "_law_size"] (defScope sLTake) := ⟨rfl, rfl, rfl, by decide +kernel, rfl, by decide +kernel, by decide +kernel⟩
theorem ok_take {f : Addr} {fd : FuncData} (F : FnP K "_law_take" "_law_take" sLTake f fd) : FnOk P w K mg base CX0 1 f fd ["_law_box_here", "_law_size"] spTake := by
  refine fn_ok F scTake (fun vs H Q E h => ?_) (fun cdv A outer s H vs Q E hr h => ?_)
  · obtain ⟨b, c, n, rfl, _⟩ := h
    rfl
  · obtain ⟨b, c, n, rfl, ⟨x, y, z, hb, h1, h2, h3, h4, h5⟩, hc, hn1, hn2, k⟩ := h
    refine ⟨_, pss_cons (ps_if (pt_cmpR op_gt (pe_ix ix_list (pv 0) pe_int (fun _ _ => rfl)) pe_int (nomark _))
        (pss_cons (ps_set (i := 2) scTake.nd rfl (Or.inl rfl) (pe_op op_modN (pe_ix ix_list (pv 0) pe_int (fun _ _ => rfl)) (pv 1)))
        (pss_cons (ps_asg (pe_op op_fdivN (pe_ix ix_list (pv 0) pe_int (fun _ _ => rfl)) (pv 1)) (pg_sub (pv 0) pe_int set_list))
        (pss_one (ps_ret (pv 2))))) pss_nil)
      (pss_cons (ps_asg (pe_op op_add (pe_ix ix_list (pv 0) pe_int (fun _ _ => rfl)) pe_int) (pg_sub (pv 0) pe_int set_list))
      (pss_cons (ps_set (i := 3) scTake.nd rfl (Or.inl rfl) (pe_op op_modN (pe_op op_pow (pe_op op_add (pe_op op_add (pe_ix ix_list (pv 0) pe_int (fun _ _ => rfl)) (pe_op op_mul pe_int (pe_ix ix_list (pv 0) pe_int (fun _ _ => rfl)))) pe_int) pe_int) pe_int))
      (pss_cons (ps_set (i := 4) scTake.nd rfl (Or.inl rfl) (pe_op op_modN (pe_op op_pow (pe_op op_add (pe_op op_add (pe_op op_fdiv (pv 3) pe_int) (pe_op op_mul pe_int (pe_ix ix_list (pv 0) pe_int (fun _ _ => rfl)))) pe_int) pe_int) pe_int))
      (pss_one (ps_ret (pe_op op_modN (pe_op op_add (pe_op op_fdiv (pv 3) pe_int) (pe_op op_mul pe_int (pe_op op_fdiv (pv 4) pe_int))) (pv 1))))))), ?_⟩
    have s0 : SqL K H b [.int x, .int y, .int z] := SqL.of hb
    refine ⟨_, rfl, b, _, 0, .int x, rfl, rfl, s0, a0, x, 0, rfl, rfl, _, rfl, ?_⟩
    refine ite2 (fun hx => ?_) (fun hx => ?_)
    · have hx0 : 0 < x := of_decide_eq_true hx
      refine ⟨_, rfl, b, _, 0, .int x, rfl, rfl, s0, a0, _, rfl, x, n, rfl, rfl, by omega, ?_⟩
      refine ⟨_, rfl, b, _, 0, .int x, rfl, rfl, s0, a0, _, rfl, x, n, rfl, rfl, ⟨by omega, by omega⟩, ?_⟩
      refine ⟨_, rfl, b, _, 0, 0, rfl, rfl, hb, rfl, ?_⟩
      refine ⟨_, rfl, ?_⟩
      exact k _ _ (fmod_lo (by omega)) (fmod_hi (by omega)) ⟨x.fdiv n, y, z, upd_same, Int.fdiv_nonneg h1 (by omega), h2, h3, h4, by omega⟩ but_at
    · have hb' : upd H b (.lst [.int x, .int y, .int (z + 1)]) b = some (.lst [.int x, .int y, .int (z + 1)]) := upd_same
      have s1 : SqL K (upd H b (.lst [.int x, .int y, .int (z + 1)])) b [.int x, .int y, .int (z + 1)] := SqL.of hb'
      have hz : z ≤ 1099511627776 := by have e : (2 : Int) ^ 40 = 1099511627776 := by decide
                                        omega
      refine ⟨_, rfl, b, _, 2, .int z, rfl, rfl, s0, a2, z, 1, rfl, rfl, _, rfl, b, _, 2, 2, rfl, rfl, hb, rfl, ?_⟩
      -- one
      have e1 : ((y + 7919 * (z + 1) + 29) : Int).natAbs < 2 ^ 64 := by
        have e : (2 : Nat) ^ 64 = 18446744073709551616 := by decide
        omega
      refine ⟨_, rfl, b, _, 1, .int y, rfl, rfl, s1, a1, _, rfl, b, _, 2, .int (z + 1), rfl, rfl, s1, a2, 7919, z + 1, rfl, rfl, .inl ⟨by decide, by decide⟩, y, _, rfl, rfl, y + 7919 * (z + 1), 29, rfl, rfl, _, 5, rfl, rfl, ⟨by decide, by decide, e1⟩, _, 2147483647, rfl, rfl, (by show (2147483647 : Int) ≠ 0; decide), ?_⟩
      -- two
      obtain ⟨one, hq1⟩ : ∃ q, q = ((y + 7919 * (z + 1) + 29) ^ (5 : Int).toNat).fmod 2147483647 := ⟨_, rfl⟩
      have o1 : 0 ≤ one := by rw [hq1]; exact fmod_lo (by decide)
      have o2 : one < 2147483647 := by rw [hq1]; exact fmod_hi (by decide)
      have o3 : V.int (((y + 7919 * (z + 1) + 29) ^ (5 : Int).toNat).fmod 2147483647) = V.int one := by rw [hq1]
      have e2 : ((one / 8 + 104729 * (z + 1) + 11) : Int).natAbs < 2 ^ 64 := by
        have e : (2 : Nat) ^ 64 = 18446744073709551616 := by decide
        omega
      refine ⟨_, rfl, one, 8, o3, rfl, ⟨by decide, by decide⟩, _, rfl, b, _, 2, .int (z + 1), rfl, rfl, s1, a2, 104729, z + 1, rfl, rfl, .inl ⟨by decide, by decide⟩, one / 8, _, rfl, rfl, one / 8 + 104729 * (z + 1), 11, rfl, rfl, _, 3, rfl, rfl, ⟨by decide, by decide, e2⟩, _, 2147483629, rfl, rfl, (by show (2147483629 : Int) ≠ 0; decide), ?_⟩
      refine ⟨_, rfl, one, 4, o3, rfl, ⟨by decide, by decide⟩, _, rfl, _, 4, rfl, rfl, ⟨by decide, by decide⟩, 536870909, _, rfl, rfl, .inl ⟨by decide, by decide⟩, one / 4, _, rfl, rfl, _, rfl, _, n, rfl, rfl, (by show n ≠ 0; omega), ?_⟩
      exact k _ _ (fmod_lo (by omega)) (fmod_hi (by omega)) ⟨x, y, z + 1, hb', h1, h2, h3, by omega, by omega⟩ but_at
end
end GA
namespace GA
set_option maxRecDepth 100000
set_option maxHeartbeats 4000000
open PySem PySem.Spec PyProof.Rows L2
/-- what the walk asks of the written part -/
structure Txt (K : PySem.W.Frag) (mg : Str → Option Value) (CP CS : Addr) : Prop where
  clP : Cls K CP
  clS : Cls K CS
  nTP : NoAttr K CP "told_promise"
  nTC : NoAttr K CP "told_ceiling"
  nNP : NoAttr K CP "now_promise"
  nNC : NoAttr K CP "now_ceiling"
  nTU : NoAttr K CP "turns_used"
  nOL : NoAttr K CS "own_length"
  nPo : NoAttr K CS "portions"
  nPa : NoAttr K CS "turns_passed"
  nAD : NoAttr K CS "all_dealt"
  mgP : mg "Portion" = some (.ref CP)
  mgS : mg "Shares" = some (.ref CS)
  isi : mg "isinstance" = none
  tint : mg "int" = none
  tbool : mg "bool" = none
  tstr : mg "str" = none
  tlist : mg "list" = none
  ttuple : mg "tuple" = none
  len : mg "len" = none
  all : mg "all" = none
  max : mg "max" = none
  min : mg "min" = none
  sum : mg "sum" = none
  range : mg "range" = none
  letters : ∃ t, mg "LETTERS" = some (.str "abcdefghijklmnopqrstuvwxyz" t)
  longest : ∃ t, mg "LONGEST_NAME" = some (.int 8 t)
  least : ∃ t, mg "LEAST_LENGTH" = some (.int 4 t)
  most : ∃ t, mg "MOST_LENGTH" = some (.int 60 t)
  guests : ∃ t, mg "MOST_GUESTS" = some (.int 6 t)
/-! ### is_whole -/
def spWhole : Sp := fun vs H Q _ => ∃ i lo hi : Int, vs = [.int i, .int lo, .int hi] ∧ lo ≤ i ∧ i ≤ hi ∧ Q (.bl true) H
section
variable {P : Program} {w : World} {K : PySem.W.Frag} {mg : Str → Option Value} {base : Heap} {CP CS : Addr}
theorem scWhole : FnScope ["thing", "low", "high"] ["thing", "low", "high"] (defScope sIsWhole) := ⟨rfl, rfl, rfl, by decide +kernel, rfl, by decide +kernel, by decide +kernel⟩
theorem ok_whole {f : Addr} {fd : FuncData} (T : Txt K mg CP CS) (F : FnP K "is_whole" "is_whole" sIsWhole f fd) : FnOk P w K mg base CX0 1 f fd ["thing", "low", "high"] spWhole := by
  refine fn_ok F scWhole (fun vs H Q E h => ?_) (fun cdv A outer s H vs Q E hr h => ?_)
  · obtain ⟨i, lo, hi, rfl, _⟩ := h
    rfl
  · obtain ⟨i, lo, hi, rfl, h1, h2, k⟩ := h
    refine ⟨_, pss_one (ps_ret (pe_and (pe_callB call_isi (by rfl) T.isi boot_isinstance (pa_cons (pv 0) (pa_cons (pe_bltn (v := .ty "int") (by rfl) T.tint boot_int rfl) pa_nil)))
      (pe_and (pe_not (pe_callB call_isi (by rfl) T.isi boot_isinstance (pa_cons (pv 0) (pa_cons (pe_bltn (v := .ty "bool") (by rfl) T.tbool boot_bool rfl) pa_nil))))
        (pe_one (pe_chain op_le op_le (pv 1) (pv 0) (pv 2)))))), ?_⟩
    refine ⟨_, rfl, _, _, .type "int", .type "int", true, rfl, .ty _, .base (.int _), kit_ty (by decide +kernel), true, rfl, iteT ?_⟩
    refine ⟨_, rfl, _, _, .type "int", .type "bool", false, rfl, .ty _, .base (.int _), kit_ty (by decide +kernel), false, rfl, true, rfl, iteT ?_⟩
    refine ⟨_, rfl, _, rfl, lo, i, rfl, rfl, true, congrArg V.bl (decide_eq_true h1), iteT ?_⟩
    refine ⟨_, rfl, i, hi, rfl, rfl, ?_⟩
    have e : decide (i ≤ hi) = true := decide_eq_true h2
    show Q (.bl (decide (i ≤ hi))) H
    rw [e]
    exact k
/-! ### is_name -/
def LET : Str := "abcdefghijklmnopqrstuvwxyz"
def OkName (z : Str) : Prop := 1 ≤ z.length ∧ z.length ≤ 8 ∧ ∀ c ∈ z.cps.toList, c ∈ LET.cps.toList
def spIsName : Sp := fun vs H Q _ => ∃ z : Str, vs = [.str z] ∧ OkName z ∧ ∀ H', Same H H' → Q (.bl true) H'
theorem scName : FnScope ["thing", "sign"] ["thing"] (defScope sIsName) := ⟨rfl, rfl, rfl, by decide +kernel, rfl, by decide +kernel, by decide +kernel⟩
theorem small_le {n m : Nat} (h : n ≤ m) (hm : m ≤ 1000) : n ≤ sizeLine := Nat.le_of_lt (small1000 (Nat.le_trans h hm))
theorem all_true (n : Nat) : (List.replicate n true).all id = true := by
  induction n with
  | zero => rfl
  | succ n ih => rw [List.replicate_succ, List.all_cons, ih] <;> rfl
theorem ok_isname {f : Addr} {fd : FuncData} (T : Txt K mg CP CS) (F : FnP K "is_name" "is_name" sIsName f fd) : FnOk P w K mg base CX0 1 f fd ["thing"] spIsName := by
  refine fn_ok F scName (fun vs H Q E h => ?_) (fun cdv A outer s H vs Q E hr h => ?_)
  · obtain ⟨z, rfl, _⟩ := h
    rfl
  · obtain ⟨z, rfl, ⟨h1, h2, h3⟩, k⟩ := h
    obtain ⟨tl, ml⟩ := T.longest
    obtain ⟨tL, mL⟩ := T.letters
    refine ⟨_, pss_cons (ps_if (PW.pt (pw_or (pt_not (pt_val (pe_callB call_isi (by rfl) T.isi boot_isinstance (pa_cons (pv 0) (pa_cons (pe_bltn (v := .ty "str") (by rfl) T.tstr boot_str rfl) pa_nil)))))
        (pw_or1 (pt_not (pt_chain op_le op_le pe_int (pe_callB call_len_str (by rfl) T.len PySem.boot_len (pa_cons (pv 0) pa_nil)) (pe_glob (v := .int 8) rfl ml ⟨_, rfl⟩)))))) (pss_one ps_never) pss_nil)
      (pss_one (ps_ret (pe_callB (cr_all rfl) (by rfl) T.all boot_all (pa_cons (pe_lc (own := [("sign", 1)]) (g := gName 1) (tt := tYes) rfl scName.nd (pi_str (pv 0)) (blkOk_by (N := ["thing", "sign"]) (sc := defScope sIsName) (by decide +kernel))
        (fun _ _ _ _ _ => pg_name (i := 1) scName.nd rfl (Or.inl rfl)) (fun _ _ _ _ _ => pts_nil) (fun _ _ _ _ _ => pe_cmpR op_in_sign (pv 1) (pe_glob (v := .str LET) rfl mL ⟨_, rfl⟩) rfl)) pa_nil)))), ?_⟩
    refine ⟨_, rfl, _, _, .type "str", .type "str", true, rfl, .ty _, .base (.str _), kit_ty (by decide +kernel), true, rfl, ?_⟩
    refine iteF ?_
    refine ⟨_, rfl, z, rfl, small_le h2 (by decide), 1, _, rfl, rfl, true, congrArg V.bl (decide_eq_true (by omega)), iteT ⟨_, _, rfl, rfl, true, congrArg V.bl (decide_eq_true (by omega)), iteF ?_⟩⟩
    -- return all([sign in LETTERS for sign in thing])
    refine ⟨_, rfl, z, rfl, fun D hD => ?_⟩
    refine lc_it walk_str (fun i H' => Same H H' ∧ H D = none ∧ H' D = some (.lst (List.replicate i (V.bl true)))) ⟨same_new hD, hD, upd_same⟩ (fun _ _ _ _ => trivial) ?_ ?_
    · rintro i x H1 H2 hi ⟨s1, d0, d1⟩ ⟨rfl, c, hc, rfl⟩
      have hm : c ∈ LET.cps.toList := h3 c (List.mem_of_getElem? (by rw [Array.getElem?_toList]; exact hc))
      refine ⟨rfl, _, rfl, c, LET, rfl, rfl, _, d1, ?_, ?_, d0, ?_⟩
      · rw [List.length_replicate]
        have : z.cps.size ≤ 8 := h2
        exact small1000 (by omega)
      · intro a o e
        rw [upd_ne (ne_of_none e d0)]
        exact s1 a o e
      · rw [upd_same]
        have e : decide (c ∈ LET.cps.toList) = true := decide_eq_true hm
        rw [e, ← List.replicate_succ']
    · rintro H1 ⟨s1, d0, d1⟩
      refine ⟨D, List.replicate z.cps.size true, rfl, SqL.of (by rw [d1, List.map_replicate]), ?_⟩
      rw [all_true]
      exact k H1 s1
/-! ### need_length, need_share -/
def spNeedLen : Sp := fun vs H Q _ => ∃ n : Int, vs = [.int n] ∧ 4 ≤ n ∧ n ≤ 60 ∧ Q .non H
theorem scNL : FnScope ["length"] ["length"] (defScope sNeedLen) := ⟨rfl, rfl, rfl, by decide +kernel, rfl, by decide +kernel, by decide +kernel⟩
theorem ok_needlen {f : Addr} {fd : FuncData} (T : Txt K mg CP CS) (GW : GFn P w K mg base 1 "is_whole" ["thing", "low", "high"] spWhole) (F : FnP K "need_length" "need_length" sNeedLen f fd) : FnOk P w K mg base CX0 2 f fd ["length"] spNeedLen := by
  refine fn_ok F scNL (fun vs H Q E h => ?_) (fun cdv A outer s H vs Q E hr h => ?_)
  · obtain ⟨n, rfl, _⟩ := h
    rfl
  · obtain ⟨n, rfl, h1, h2, k⟩ := h
    obtain ⟨t1, m1⟩ := T.least
    obtain ⟨t2, m2⟩ := T.most
    refine ⟨_, pss_one (ps_if (pt_not (pt_val (gcall GW hr (by decide) (by rfl) (pa_cons (pv 0) (pa_cons (pe_glob (v := .int 4) rfl m1 ⟨_, rfl⟩) (pa_cons (pe_glob (v := .int 60) rfl m2 ⟨_, rfl⟩) pa_nil)))))) (pss_one ps_never) pss_nil), ?_⟩
    exact ⟨_, rfl, n, 4, 60, rfl, h1, h2, true, rfl, iteF k⟩
def spNeedShare : Sp := fun vs H Q _ => ∃ n p c : Int, vs = [.int n, .int p, .int c] ∧ 0 ≤ p ∧ p ≤ n ∧ 1 ≤ c ∧ p ≤ c ∧ c ≤ n ∧ Q .non H
theorem scNS : FnScope ["length", "promise", "ceiling"] ["length", "promise", "ceiling"] (defScope sNeedShare) := ⟨rfl, rfl, rfl, by decide +kernel, rfl, by decide +kernel, by decide +kernel⟩
theorem ok_needshare {f : Addr} {fd : FuncData} (T : Txt K mg CP CS) (GW : GFn P w K mg base 1 "is_whole" ["thing", "low", "high"] spWhole) (F : FnP K "need_share" "need_share" sNeedShare f fd) : FnOk P w K mg base CX0 2 f fd ["length", "promise", "ceiling"] spNeedShare := by
  refine fn_ok F scNS (fun vs H Q E h => ?_) (fun cdv A outer s H vs Q E hr h => ?_)
  · obtain ⟨n, p, c, rfl, _⟩ := h
    rfl
  · obtain ⟨n, p, c, rfl, h1, h2, h3, h4, h5, k⟩ := h
    refine ⟨_, pss_cons (ps_if (pt_not (pt_val (gcall GW hr (by decide) (by rfl) (pa_cons (pv 1) (pa_cons pe_int (pa_cons (pv 0) pa_nil)))))) (pss_one ps_never) pss_nil)
      (pss_one (ps_if (pt_not (pt_val (gcall GW hr (by decide) (by rfl) (pa_cons (pv 2) (pa_cons (pe_callB (call_max2 rfl) (by rfl) T.max boot_max (pa_cons pe_int (pa_cons (pv 1) pa_nil))) (pa_cons (pv 0) pa_nil)))))) (pss_one ps_never) pss_nil)), ?_⟩
    refine ⟨_, rfl, _, rfl, p, 0, n, rfl, h1, h2, true, rfl, iteF ?_⟩
    refine ⟨_, rfl, _, rfl, 1, p, rfl, _, rfl, c, _, n, rfl, ?_, h5, true, rfl, iteF k⟩
    split <;> omega
end
end GA
namespace GA
set_option maxRecDepth 100000
set_option maxHeartbeats 4000000
open PySem PySem.Spec PyProof.Rows L2
/-! ### a portion's data, the shares' data -/
structure Po where
  tp : Int
  tc : Int
  np : Int
  nc : Int
  u : Int
def pf (p : Po) : List (Str × V) := [("told_promise", .int p.tp), ("told_ceiling", .int p.tc), ("now_promise", .int p.np), ("now_ceiling", .int p.nc), ("turns_used", .int p.u)]
theorem pf_tp (p : Po) : (pf p).lookup ("told_promise" : Str) = some (.int p.tp) := by kernel_rfl
theorem pf_tc (p : Po) : (pf p).lookup ("told_ceiling" : Str) = some (.int p.tc) := by kernel_rfl
theorem pf_np (p : Po) : (pf p).lookup ("now_promise" : Str) = some (.int p.np) := by kernel_rfl
theorem pf_nc (p : Po) : (pf p).lookup ("now_ceiling" : Str) = some (.int p.nc) := by kernel_rfl
theorem pf_u (p : Po) : (pf p).lookup ("turns_used" : Str) = some (.int p.u) := by kernel_rfl
theorem pf_beg (p : Po) : (pf p).lookup ("begin" : Str) = none := by kernel_rfl
theorem pf_tpP (p : Po) (z : Int) : putF "told_promise" (.int z) (pf p) = pf { p with tp := z } := by kernel_rfl
theorem pf_tcP (p : Po) (z : Int) : putF "told_ceiling" (.int z) (pf p) = pf { p with tc := z } := by kernel_rfl
theorem pf_npP (p : Po) (z : Int) : putF "now_promise" (.int z) (pf p) = pf { p with np := z } := by kernel_rfl
theorem pf_ncP (p : Po) (z : Int) : putF "now_ceiling" (.int z) (pf p) = pf { p with nc := z } := by kernel_rfl
theorem pf_uP (p : Po) (z : Int) : putF "turns_used" (.int z) (pf p) = pf { p with u := z } := by kernel_rfl
theorem pf_new (a b c d e : Int) : putF "turns_used" (.int e) (putF "now_ceiling" (.int d) (putF "now_promise" (.int c) (putF "told_ceiling" (.int b) (putF "told_promise" (.int a) [])))) = pf ⟨a, b, c, d, e⟩ := by kernel_rfl
theorem pf_len (p : Po) : (pf p).length < 1000 := by show 5 < 1000; decide
def sf (L : Int) (d : Addr) (t : Int) (l : Addr) : List (Str × V) := [("own_length", .int L), ("portions", .ref d), ("turns_passed", .int t), ("all_dealt", .ref l)]
section
variable (L : Int) (d : Addr) (t : Int) (l : Addr)
theorem sf_ol : (sf L d t l).lookup ("own_length" : Str) = some (.int L) := by kernel_rfl
theorem sf_po : (sf L d t l).lookup ("portions" : Str) = some (.ref d) := by kernel_rfl
theorem sf_tp : (sf L d t l).lookup ("turns_passed" : Str) = some (.int t) := by kernel_rfl
theorem sf_ad : (sf L d t l).lookup ("all_dealt" : Str) = some (.ref l) := by kernel_rfl
theorem sf_tpP (z : Int) : putF "turns_passed" (.int z) (sf L d t l) = sf L d z l := by kernel_rfl
theorem sf_new : putF "all_dealt" (.ref l) (putF "turns_passed" (.int t) (putF "portions" (.ref d) (putF "own_length" (.int L) []))) = sf L d t l := by kernel_rfl
theorem sf_len : (sf L d t l).length < 1000 := by show 4 < 1000; decide
theorem sf_n1 : (sf L d t l).lookup ("need_guest" : Str) = none := by kernel_rfl
theorem sf_n2 : (sf L d t l).lookup ("need_room_for" : Str) = none := by kernel_rfl
theorem sf_n3 : (sf L d t l).lookup ("come" : Str) = none := by kernel_rfl
theorem sf_n4 : (sf L d t l).lookup ("go" : Str) = none := by kernel_rfl
theorem sf_n5 : (sf L d t l).lookup ("change" : Str) = none := by kernel_rfl
theorem sf_n6 : (sf L d t l).lookup ("promised_one" : Str) = none := by kernel_rfl
theorem sf_n7 : (sf L d t l).lookup ("free_one" : Str) = none := by kernel_rfl
theorem sf_n8 : (sf L d t l).lookup ("deal" : Str) = none := by kernel_rfl
theorem sf_n9 : (sf L d t l).lookup ("length" : Str) = none := by kernel_rfl
theorem sf_n10 : (sf L d t l).lookup ("names" : Str) = none := by kernel_rfl
theorem sf_n11 : (sf L d t l).lookup ("promise" : Str) = none := by kernel_rfl
theorem sf_n12 : (sf L d t l).lookup ("promised" : Str) = none := by kernel_rfl
theorem sf_n13 : (sf L d t l).lookup ("dealt" : Str) = none := by kernel_rfl
end
abbrev Ent := Str × Addr × Po
def kvsOf (es : List Ent) : List (Key × V) := es.map fun e => (Sum.inr e.1, V.ref e.2.1)
/-- the dict, walked (fz) or not -/
def dO (fz : Option Obj) (kvs : List (Key × V)) : HO := match fz with
  | none => .dK kvs
  | some o => .frz o (.dK kvs)
def plainO : HO → Prop
  | .tbl _ => False
  | .ext _ => False
  | _ => True
structure ShAt (CP CS : Addr) (fz : Option Obj) (R : Addr → Prop) (H : Hp) (p dx d l : Addr) (L t : Int) (es : List Ent) (dl : List V) : Prop where
  ob : H p = some (.ins CS dx (sf L d t l))
  dc : H d = some (dO fz (kvsOf es))
  al : H l = some (.lst dl)
  po : ∀ (i : Nat) (e : Ent), es[i]? = some e → ∃ dxe, H e.2.1 = some (.ins CP dxe (pf e.2.2))
  nd : (es.map (·.1)).Nodup
  na : (es.map (·.2.1)).Nodup
  np : ∀ (i : Nat) (e : Ent), es[i]? = some e → e.2.1 ≠ p
  rp : R p
  rd : R d
  rl : R l
  re : ∀ (i : Nat) (e : Ent), es[i]? = some e → R e.2.1
  dom : ∀ a, R a → ∃ o, H a = some o ∧ plainO o
section
variable {CP CS : Addr} {fz : Option Obj} {R : Addr → Prop} {H H' : Hp} {p dx d l : Addr} {L t : Int} {es : List Ent} {dl : List V} {i j : Nat} {e e' : Ent} {n : Str}
theorem dO_ne_ins {kvs : List (Key × V)} {C x : Addr} {fs : List (Str × V)} : dO fz kvs ≠ .ins C x fs := by
  cases fz <;> (intro z; cases z)
theorem dO_ne_lst {kvs : List (Key × V)} {xs : List V} : dO fz kvs ≠ .lst xs := by
  cases fz <;> (intro z; cases z)
theorem ShAt.pd (S : ShAt CP CS fz R H p dx d l L t es dl) : p ≠ d := ne_of S.ob S.dc fun z => dO_ne_ins z.symm
theorem ShAt.pl (S : ShAt CP CS fz R H p dx d l L t es dl) : p ≠ l := ne_of S.ob S.al (by intro z; cases z)
theorem ShAt.dl_ (S : ShAt CP CS fz R H p dx d l L t es dl) : d ≠ l := ne_of S.dc S.al dO_ne_lst
theorem ShAt.ed (S : ShAt CP CS fz R H p dx d l L t es dl) (h : es[i]? = some e) : e.2.1 ≠ d := by
  obtain ⟨x, q⟩ := S.po i e h
  exact ne_of q S.dc fun z => dO_ne_ins z.symm
theorem ShAt.el (S : ShAt CP CS fz R H p dx d l L t es dl) (h : es[i]? = some e) : e.2.1 ≠ l := by
  obtain ⟨x, q⟩ := S.po i e h
  exact ne_of q S.al (by intro z; cases z)
theorem ix_name (nd : (es.map (·.1)).Nodup) (h : es[i]? = some e) (h' : es[j]? = some e') (q : e.1 = e'.1) : i = j :=
  nd_ix nd (x := e.1) (by rw [List.getElem?_map, h] <;> rfl) (by rw [List.getElem?_map, h', q] <;> rfl)
theorem ix_addr (na : (es.map (·.2.1)).Nodup) (h : es[i]? = some e) (h' : es[j]? = some e') (q : e.2.1 = e'.2.1) : i = j :=
  nd_ix na (x := e.2.1) (by rw [List.getElem?_map, h] <;> rfl) (by rw [List.getElem?_map, h', q] <;> rfl)
/-- the region's objects kept -/
theorem ShAt.keep (S : ShAt CP CS fz R H p dx d l L t es dl) (k : ∀ a o, R a → H a = some o → H' a = some o) : ShAt CP CS fz R H' p dx d l L t es dl where
  ob := k _ _ S.rp S.ob
  dc := k _ _ S.rd S.dc
  al := k _ _ S.rl S.al
  po := fun i e h => let ⟨x, q⟩ := S.po i e h; ⟨x, k _ _ (S.re i e h) q⟩
  nd := S.nd
  na := S.na
  np := S.np
  rp := S.rp
  rd := S.rd
  rl := S.rl
  re := S.re
  dom := fun a h => let ⟨o, q, z⟩ := S.dom a h; ⟨o, k _ _ h q, z⟩
theorem ShAt.same (S : ShAt CP CS fz R H p dx d l L t es dl) (s : Same H H') : ShAt CP CS fz R H' p dx d l L t es dl := S.keep fun a o _ h => s a o h
theorem ShAt.new (S : ShAt CP CS fz R H p dx d l L t es dl) {a : Addr} {o : HO} (n : H a = none) : ShAt CP CS fz R (upd H a o) p dx d l L t es dl := S.same (same_new n)
theorem ShAt.out (S : ShAt CP CS fz R H p dx d l L t es dl) {a : Addr} {o : HO} (n : ¬ R a) : ShAt CP CS fz R (upd H a o) p dx d l L t es dl := S.keep fun b u h q => by
  rw [upd_ne (show b ≠ a from fun z => n (by rw [← z]; exact h))]
  exact q
theorem ShAt.dm (S : ShAt CP CS fz R H p dx d l L t es dl) : Dm R H := fun a h => let ⟨o, q, _⟩ := S.dom a h; ⟨o, q⟩
theorem ShAt.lock (S : ShAt CP CS none R H p dx d l L t es dl) (od : Obj) : ShAt CP CS (some od) R (upd H d (.frz od (.dK (kvsOf es)))) p dx d l L t es dl where
  ob := by rw [upd_ne S.pd]; exact S.ob
  dc := upd_same
  al := by rw [upd_ne S.dl_.symm]; exact S.al
  po := fun i e h => let ⟨x, q⟩ := S.po i e h; ⟨x, by rw [upd_ne (S.ed h)]; exact q⟩
  nd := S.nd
  na := S.na
  np := S.np
  rp := S.rp
  rd := S.rd
  rl := S.rl
  re := S.re
  dom := fun a h => by
    by_cases e : a = d
    · exact ⟨.frz od (.dK (kvsOf es)), by rw [e]; exact upd_same, True.intro⟩
    · obtain ⟨o, q, z⟩ := S.dom a h
      exact ⟨o, by rw [upd_ne e]; exact q, z⟩
theorem ShAt.unlock {od : Obj} (S : ShAt CP CS (some od) R H p dx d l L t es dl) : ShAt CP CS none R (upd H d (.dK (kvsOf es))) p dx d l L t es dl where
  ob := by rw [upd_ne S.pd]; exact S.ob
  dc := upd_same
  al := by rw [upd_ne S.dl_.symm]; exact S.al
  po := fun i e h => let ⟨x, q⟩ := S.po i e h; ⟨x, by rw [upd_ne (S.ed h)]; exact q⟩
  nd := S.nd
  na := S.na
  np := S.np
  rp := S.rp
  rd := S.rd
  rl := S.rl
  re := S.re
  dom := fun a h => by
    by_cases e : a = d
    · exact ⟨.dK (kvsOf es), by rw [e]; exact upd_same, True.intro⟩
    · obtain ⟨o, q, z⟩ := S.dom a h
      exact ⟨o, by rw [upd_ne e]; exact q, z⟩
/-- one portion is changed -/
theorem ShAt.setP (S : ShAt CP CS fz R H p dx d l L t es dl) (h : es[i]? = some e) {x : Addr} {q : Po} (k : But e.2.1 H H') (hx : H' e.2.1 = some (.ins CP x (pf q))) :
    ShAt CP CS fz R H' p dx d l L t (es.set i (e.1, e.2.1, q)) dl := by
  have hi : i < es.length := (List.getElem?_eq_some_iff.mp h).1
  have cas : ∀ (j : Nat) (e' : Ent), (es.set i (e.1, e.2.1, q))[j]? = some e' → (e' = (e.1, e.2.1, q)) ∨ (es[j]? = some e' ∧ j ≠ i) := fun j e' hj => by
    by_cases c : j = i
    · rw [c, List.getElem?_set_self hi] at hj
      exact .inl (Option.some.inj hj).symm
    · rw [List.getElem?_set_ne (Ne.symm c)] at hj
      exact .inr ⟨hj, c⟩
  have ek : kvsOf (es.set i (e.1, e.2.1, q)) = kvsOf es := by
    unfold kvsOf
    rw [List.map_set]
    apply List.ext_getElem?
    intro j
    by_cases c : j = i
    · rw [c, List.getElem?_set_self (by rw [List.length_map]; exact hi), List.getElem?_map, h] <;> rfl
    · rw [List.getElem?_set_ne (Ne.symm c)]
  have e1 : (es.set i (e.1, e.2.1, q)).map (·.1) = es.map (·.1) := by
    rw [List.map_set]
    apply List.ext_getElem?
    intro j
    by_cases c : j = i
    · rw [c, List.getElem?_set_self (by rw [List.length_map]; exact hi), List.getElem?_map, h] <;> rfl
    · rw [List.getElem?_set_ne (Ne.symm c)]
  have e2 : (es.set i (e.1, e.2.1, q)).map (·.2.1) = es.map (·.2.1) := by
    rw [List.map_set]
    apply List.ext_getElem?
    intro j
    by_cases c : j = i
    · rw [c, List.getElem?_set_self (by rw [List.length_map]; exact hi), List.getElem?_map, h] <;> rfl
    · rw [List.getElem?_set_ne (Ne.symm c)]
  refine ⟨k _ _ S.ob (S.np i e h).symm, by rw [ek]; exact k _ _ S.dc (S.ed h).symm, k _ _ S.al (S.el h).symm, fun j e' hj => ?_, by rw [e1]; exact S.nd, by rw [e2]; exact S.na, fun j e' hj => ?_, S.rp, S.rd, S.rl, fun j e' hj => ?_, fun a ha => ?_⟩
  · rcases cas j e' hj with z | ⟨z, c⟩
    · rw [z]
      exact ⟨x, hx⟩
    · obtain ⟨y, hy⟩ := S.po j e' z
      exact ⟨y, k _ _ hy fun w => c (ix_addr S.na z h w)⟩
  · rcases cas j e' hj with z | ⟨z, c⟩
    · rw [z]
      exact S.np i e h
    · exact S.np j e' z
  · rcases cas j e' hj with z | ⟨z, c⟩
    · rw [z]
      exact S.re i e h
    · exact S.re j e' z
  · by_cases c : a = e.2.1
    · exact ⟨.ins CP x (pf q), by rw [c]; exact hx, True.intro⟩
    · obtain ⟨o, q1, q2⟩ := S.dom a ha
      exact ⟨o, k _ _ q1 c, q2⟩
theorem kvs_get (h : es[i]? = some e) : (kvsOf es)[i]? = some (Sum.inr e.1, V.ref e.2.1) := by
  unfold kvsOf
  rw [List.getElem?_map, h] <;> rfl
theorem kvs_len : (kvsOf es).length = es.length := List.length_map _
theorem val_none : ∀ {es : List Ent}, ¬ n ∈ es.map (·.1) → valV (kvsOf es) (Sum.inr n) = none
  | [], _ => rfl
  | e :: r, h => by
    have h1 : ¬ n = e.1 := fun z => h (by rw [z]; exact List.mem_cons_self)
    have h2 : ¬ n ∈ r.map (·.1) := fun z => h (List.mem_cons_of_mem _ z)
    show valV ((Sum.inr e.1, V.ref e.2.1) :: kvsOf r) (Sum.inr n) = none
    rw [valV_neg (fun z => h1 (Sum.inr.inj z).symm)]
    exact val_none h2
theorem val_at : ∀ {es : List Ent} {i : Nat} {e : Ent}, (es.map (·.1)).Nodup → es[i]? = some e → valV (kvsOf es) (Sum.inr e.1) = some (.ref e.2.1)
  | [], i, e, _, h => by simp at h
  | a :: r, 0, e, _, h => by
    have q : a = e := Option.some.inj h
    subst q
    exact valV_pos rfl
  | a :: r, i + 1, e, nd, h => by
    have h' : r[i]? = some e := h
    rw [List.map_cons, List.nodup_cons] at nd
    have h1 : ¬ e.1 = a.1 := fun z => nd.1 (by rw [← z]; exact List.mem_of_getElem? (show (r.map (·.1))[i]? = some e.1 by rw [List.getElem?_map, h'] <;> rfl))
    show valV ((Sum.inr a.1, V.ref a.2.1) :: kvsOf r) (Sum.inr e.1) = _
    rw [valV_neg (fun z => h1 (Sum.inr.inj z).symm)]
    exact val_at nd.2 h'
theorem name_ix (h : n ∈ es.map (·.1)) : ∃ (i : Nat) (e : Ent), es[i]? = some e ∧ e.1 = n := by
  obtain ⟨e, he, q⟩ := List.mem_map.mp h
  obtain ⟨i, hi, q2⟩ := List.mem_iff_getElem.mp he
  exact ⟨i, e, by rw [List.getElem?_eq_getElem hi, q2], q⟩
theorem ix_mem (h : es[i]? = some e) : e.1 ∈ es.map (·.1) := List.mem_map.mpr ⟨e, List.mem_of_getElem? h, rfl⟩
/-- the dict asked for a name -/
theorem ShAt.get (S : ShAt CP CS fz R H p dx d l L t es dl) (h : es[i]? = some e) : DGet H d (.str e.1) (some (.ref e.2.1)) := by
  refine .inl ⟨kvsOf es, Sum.inr e.1, ?_, rfl, (val_at S.nd h).symm⟩
  have q := S.dc
  cases fz with
  | none => exact .inl q
  | some o => exact .inr ⟨o, q⟩
theorem ShAt.rd_ (S : ShAt CP CS fz R H p dx d l L t es dl) : Rd H d (.dK (kvsOf es)) := by
  have q := S.dc
  cases fz with
  | none => exact .inl q
  | some o => exact .inr ⟨o, q⟩
theorem ShAt.ask (S : ShAt CP CS fz R H p dx d l L t es dl) (n : Str) : DGet H d (.str n) (valV (kvsOf es) (Sum.inr n)) := .inl ⟨kvsOf es, Sum.inr n, S.rd_, rfl, rfl⟩
end
end GA
namespace GA
set_option maxRecDepth 100000
set_option maxHeartbeats 4000000
open PySem PySem.Spec PyProof.Rows L2
/-! ### Portion -/
def spPInit (CP : Addr) : Sp := fun vs H Q _ => ∃ (a dx : Addr) (p c : Int) (o : Bool), vs = [.ref a, .int p, .int c, .bl o] ∧ H a = some (.ins CP dx []) ∧
  ∀ H', H' a = some (.ins CP dx (pf ⟨p, c, if o = true then p else 0, c, 0⟩)) → But a H H' → Q .non H'
def beg (q : Po) : Po := ⟨q.tp, q.tc, q.tp, q.tc, 0⟩
def spPBegin (CP : Addr) : Sp := fun vs H Q _ => ∃ (a dx : Addr) (q : Po), vs = [.ref a] ∧ H a = some (.ins CP dx (pf q)) ∧
  ∀ H', H' a = some (.ins CP dx (pf (beg q))) → But a H H' → Q .non H'
section
variable {P : Program} {w : World} {K : PySem.W.Frag} {mg : Str → Option Value} {base : Heap} {CP CS : Addr}
theorem scPI : FnScope ["self", "promise", "ceiling", "at_once"] ["self", "promise", "ceiling", "at_once"] (defScope sPInit) := ⟨rfl, rfl, rfl, by decide +kernel, rfl, by decide +kernel, by decide +kernel⟩
theorem ok_pinit {f : Addr} {fd : FuncData} (T : Txt K mg CP CS) (F : FnP K "__init__" "Portion.__init__" sPInit f fd) : FnOk P w K mg base CX0 1 f fd ["self", "promise", "ceiling", "at_once"] (spPInit CP) := by
  refine fn_ok F scPI (fun vs H Q E h => ?_) (fun cdv A outer s H vs Q E hr h => ?_)
  · obtain ⟨a, dx, p, c, o, rfl, _⟩ := h
    rfl
  · obtain ⟨a, dx, p, c, o, rfl, ha, k⟩ := h
    refine ⟨_, pss_cons (ps_fld (pv 0) (pv 1) rfl) (pss_cons (ps_fld (pv 0) (pv 2) rfl) (pss_cons (ps_fld (pv 0) (pe_ifExp (pt_val (pv 3)) (pv 1) pe_int) rfl)
      (pss_cons (ps_fld (pv 0) (pv 2) rfl) (pss_one (ps_fld (pv 0) pe_int rfl))))), ?_⟩
    refine ⟨_, rfl, _, rfl, a, CP, dx, _, rfl, ha, T.clP, T.nTP, (by show 0 < 1000; decide), ?_⟩
    refine ⟨_, rfl, _, rfl, a, CP, dx, _, rfl, upd_same, T.clP, T.nTC, (by show 1 < 1000; decide), ?_⟩
    have fin : ∀ z : Int, z = (if o = true then p else 0) → Q .non (upd (upd (upd (upd (upd H a (.ins CP dx (putF "told_promise" (.int p) []))) a (.ins CP dx (putF "told_ceiling" (.int c) (putF "told_promise" (.int p) [])))) a
        (.ins CP dx (putF "now_promise" (.int z) (putF "told_ceiling" (.int c) (putF "told_promise" (.int p) []))))) a (.ins CP dx (putF "now_ceiling" (.int c) (putF "now_promise" (.int z) (putF "told_ceiling" (.int c) (putF "told_promise" (.int p) [])))))) a
        (.ins CP dx (putF "turns_used" (.int 0) (putF "now_ceiling" (.int c) (putF "now_promise" (.int z) (putF "told_ceiling" (.int c) (putF "told_promise" (.int p) []))))))) := fun z hz => by
      refine k _ ?_ fun b u e n => ?_
      · rw [upd_same, pf_new, hz]
      · rw [upd_ne n, upd_ne n, upd_ne n, upd_ne n, upd_ne n]
        exact e
    refine ⟨_, rfl, o, rfl, ?_⟩
    cases o with
    | true =>
      refine iteT ⟨_, rfl, ?_⟩
      refine ⟨_, rfl, a, CP, dx, _, rfl, upd_same, T.clP, T.nNP, (by show 2 < 1000; decide), ?_⟩
      refine ⟨_, rfl, _, rfl, a, CP, dx, _, rfl, upd_same, T.clP, T.nNC, (by show 3 < 1000; decide), ?_⟩
      refine ⟨_, rfl, a, CP, dx, _, rfl, upd_same, T.clP, T.nTU, (by show 4 < 1000; decide), ?_⟩
      exact fin p rfl
    | false =>
      refine iteF ?_
      refine ⟨_, rfl, a, CP, dx, _, rfl, upd_same, T.clP, T.nNP, (by show 2 < 1000; decide), ?_⟩
      refine ⟨_, rfl, _, rfl, a, CP, dx, _, rfl, upd_same, T.clP, T.nNC, (by show 3 < 1000; decide), ?_⟩
      refine ⟨_, rfl, a, CP, dx, _, rfl, upd_same, T.clP, T.nTU, (by show 4 < 1000; decide), ?_⟩
      exact fin 0 rfl
theorem scPB : FnScope ["self"] ["self"] (defScope sPBegin) := ⟨rfl, rfl, rfl, by decide +kernel, rfl, by decide +kernel, by decide +kernel⟩
theorem ok_pbegin {f : Addr} {fd : FuncData} (T : Txt K mg CP CS) (F : FnP K "begin" "Portion.begin" sPBegin f fd) : FnOk P w K mg base CX0 1 f fd ["self"] (spPBegin CP) := by
  refine fn_ok F scPB (fun vs H Q E h => ?_) (fun cdv A outer s H vs Q E hr h => ?_)
  · obtain ⟨a, dx, q, rfl, _⟩ := h
    rfl
  · obtain ⟨a, dx, q, rfl, ha, k⟩ := h
    refine ⟨_, pss_cons (ps_asg (pe_tup (pa_cons (pe_fld (pv 0) rfl) (pa_cons (pe_fld (pv 0) rfl) pa_nil))) (pg_tup rfl (pgs_cons (pg_fld (pv 0)) (pgs_cons (pg_fld (pv 0)) pgs_nil))))
      (pss_one (ps_fld (pv 0) pe_int rfl)), ?_⟩
    refine ⟨_, rfl, a, CP, dx, _, _, rfl, ha, T.clP, T.nTP, pf_tp q, _, rfl, a, CP, dx, _, _, rfl, ha, T.clP, T.nTC, pf_tc q, (by show 2 ≤ sizeLine; decide), fun t ht => ?_⟩
    have nat : a ≠ t := ne_of_none ha ht
    refine ⟨t, _, rfl, SqT.of upd_same, rfl, _, _, rfl, ?_⟩
    refine ⟨_, rfl, a, CP, dx, _, rfl, (by rw [upd_ne nat]; exact ha), T.clP, T.nNP, pf_len q, _, _, rfl, ?_⟩
    refine ⟨_, rfl, a, CP, dx, _, rfl, upd_same, T.clP, T.nNC, (by rw [pf_npP]; exact pf_len _), rfl, ?_⟩
    refine ⟨_, rfl, a, CP, dx, _, rfl, upd_same, T.clP, T.nTU, (by rw [pf_npP, pf_ncP]; exact pf_len _), ?_⟩
    refine k _ ?_ fun b u e n => ?_
    · rw [upd_same, pf_npP, pf_ncP, pf_uP] <;> rfl
    · rw [upd_ne n, upd_ne n, upd_ne n, upd_ne (ne_of_none e ht)]
      exact e
/-! ### Shares: small ones -/
def spSInit (CP CS : Addr) : Sp := fun vs H Q _ => ∃ (p dx : Addr) (L : Int), vs = [.ref p, .int L] ∧ H p = some (.ins CS dx []) ∧ 4 ≤ L ∧ L ≤ 60 ∧
  ∀ (R : Addr → Prop) (d l : Addr) (H' : Hp), ShAt CP CS none R H' p dx d l L 0 [] [] → But p H H' → (∀ a, R a → a = p ∨ H a = none) → Q .non H'
theorem scSI : FnScope ["self", "length"] ["self", "length"] (defScope sSInit) := ⟨rfl, rfl, rfl, by decide +kernel, rfl, by decide +kernel, by decide +kernel⟩
theorem ok_sinit {f : Addr} {fd : FuncData} (T : Txt K mg CP CS) (GN : GFn P w K mg base 2 "need_length" ["length"] spNeedLen) (F : FnP K "__init__" "Shares.__init__" sSInit f fd) : FnOk P w K mg base CX0 3 f fd ["self", "length"] (spSInit CP CS) := by
  refine fn_ok F scSI (fun vs H Q E h => ?_) (fun cdv A outer s H vs Q E hr h => ?_)
  · obtain ⟨p, dx, L, rfl, _⟩ := h
    rfl
  · obtain ⟨p, dx, L, rfl, hp, h1, h2, k⟩ := h
    refine ⟨_, pss_cons (ps_expr (gcall GN hr (by decide) (by rfl) (pa_cons (pv 1) pa_nil))) (pss_cons (ps_fld (pv 0) (pv 1) rfl) (pss_cons (ps_fld (pv 0) pe_dnewK rfl) (pss_cons (ps_fld (pv 0) pe_int rfl) (pss_one (ps_fld (pv 0) (pe_lst pa_nil) rfl))))), ?_⟩
    refine ⟨_, rfl, L, rfl, h1, h2, ?_⟩
    refine ⟨_, rfl, _, rfl, p, CS, dx, _, rfl, hp, T.clS, T.nOL, (by show 0 < 1000; decide), ?_⟩
    intro d hd
    have npd : p ≠ d := ne_of_none upd_same hd
    have hd0 : H d = none := by rw [upd_ne npd.symm] at hd; exact hd
    refine ⟨_, rfl, p, CS, dx, _, rfl, (by rw [upd_ne npd]; exact upd_same), T.clS, T.nPo, (by show 1 < 1000; decide), ?_⟩
    refine ⟨_, rfl, p, CS, dx, _, rfl, upd_same, T.clS, T.nPa, (by show 2 < 1000; decide), ?_⟩
    refine ⟨Nat.zero_le _, fun l hl => ?_⟩
    have npl : p ≠ l := ne_of_none upd_same hl
    have hl1 := hl
    rw [upd_ne npl.symm, upd_ne npl.symm] at hl1
    have ndl : d ≠ l := ne_of_none upd_same hl1
    rw [upd_ne ndl.symm, upd_ne npl.symm] at hl1
    refine ⟨_, rfl, p, CS, dx, _, rfl, (by rw [upd_ne npl]; exact upd_same), T.clS, T.nAD, (by show 3 < 1000; decide), ?_⟩
    refine k (fun a => a = p ∨ a = d ∨ a = l) d l _ ⟨?_, ?_, ?_, fun i e h => by simp at h, List.nodup_nil, List.nodup_nil, fun i e h => by simp at h, .inl rfl, .inr (.inl rfl), .inr (.inr rfl), fun i e h => by simp at h, ?_⟩ (fun b u e n => ?_) (fun a h => ?_)
    · rw [upd_same, sf_new]
    · rw [upd_ne npd.symm, upd_ne ndl, upd_ne npd.symm, upd_ne npd.symm, upd_same] <;> rfl
    · rw [upd_ne npl.symm, upd_same]
    · intro a h
      rcases h with rfl | rfl | rfl
      · exact ⟨_, upd_same, True.intro⟩
      · exact ⟨.dK [], by rw [upd_ne npd.symm, upd_ne ndl, upd_ne npd.symm, upd_ne npd.symm, upd_same], True.intro⟩
      · exact ⟨.lst [], by rw [upd_ne npl.symm, upd_same], True.intro⟩
    · rw [upd_ne n, upd_ne (ne_of_none e hl1), upd_ne n, upd_ne n, upd_ne (ne_of_none e hd0), upd_ne n]
      exact e
    · rcases h with rfl | rfl | rfl
      · exact .inl rfl
      · exact .inr hd0
      · exact .inr hl1
end
end GA
namespace GA
set_option maxRecDepth 100000
set_option maxHeartbeats 4000000
open PySem PySem.Spec PyProof.Rows L2
/-! ### Shares: what is asked -/
structure SS where
  p : Addr
  dx : Addr
  d : Addr
  l : Addr
  L : Int
  t : Int
  es : List Ent
  dl : List V
abbrev Sh (CP CS : Addr) (R : Addr → Prop) (H : Hp) (s : SS) : Prop := ShAt CP CS none R H s.p s.dx s.d s.l s.L s.t s.es s.dl
def namesOf (es : List Ent) : List Str := es.map (·.1)
def tot (es : List Ent) : Int := (es.map fun e => e.2.2.tp).sum
theorem lock_same {H H' : Hp} {d : Addr} {u : HO} {od : Obj} (h : H d = some u) (s : Same (upd H d (.frz od u)) H') : Same H (upd H' d u) := fun a o e => by
  by_cases q : a = d
  · subst q
    rw [upd_same, ← h]
    exact e
  · rw [upd_ne q]
    exact s a o (by rw [upd_ne q]; exact e)
section
variable (CP CS : Addr)
def spNeedGuest : Sp := fun vs H Q _ => ∃ (R : Addr → Prop) (s : SS) (n : Str), vs = [.ref s.p, .str n] ∧ Sh CP CS R H s ∧ n ∈ namesOf s.es ∧ Q .non H
def spLength : Sp := fun vs H Q _ => ∃ (R : Addr → Prop) (s : SS), vs = [.ref s.p] ∧ Sh CP CS R H s ∧ Q (.int s.L) H
def spNames : Sp := fun vs H Q _ => ∃ (R : Addr → Prop) (s : SS), vs = [.ref s.p] ∧ Sh CP CS R H s ∧ ∀ q, H q = none → Q (.ref q) (upd H q (.lst ((namesOf s.es).map V.str)))
def spPromise : Sp := fun vs H Q _ => ∃ (R : Addr → Prop) (s : SS) (i : Nat) (e : Ent), vs = [.ref s.p, .str e.1] ∧ Sh CP CS R H s ∧ s.es[i]? = some e ∧ Q (.int e.2.2.tp) H
def spPromised : Sp := fun vs H Q _ => ∃ (R : Addr → Prop) (s : SS), vs = [.ref s.p] ∧ Sh CP CS R H s ∧ s.es.length ≤ 100 ∧ ∀ H', Same H H' → Q (.int (tot s.es)) H'
def spDealt : Sp := fun vs H Q _ => ∃ (R : Addr → Prop) (s : SS), vs = [.ref s.p] ∧ Sh CP CS R H s ∧ ∀ q, H q = none → Q (.ref q) (upd H q (.lst s.dl))
end
section
variable {P : Program} {w : World} {K : PySem.W.Frag} {mg : Str → Option Value} {base : Heap} {CP CS : Addr}
theorem scNG : FnScope ["self", "name"] ["self", "name"] (defScope sNeedGuest) := ⟨rfl, rfl, rfl, by decide +kernel, rfl, by decide +kernel, by decide +kernel⟩
theorem ok_needguest {f : Addr} {fd : FuncData} (T : Txt K mg CP CS) (F : FnP K "need_guest" "Shares.need_guest" sNeedGuest f fd) : FnOk P w K mg base CX0 1 f fd ["self", "name"] (spNeedGuest CP CS) := by
  refine fn_ok F scNG (fun vs H Q E h => ?_) (fun cdv A outer s0 H vs Q E hr h => ?_)
  · obtain ⟨R, s, n, rfl, _⟩ := h
    rfl
  · obtain ⟨R, s, n, rfl, S, hn, k⟩ := h
    have hu := hu_of hr
    obtain ⟨i, e, hi, rfl⟩ := name_ix hn
    refine ⟨_, pss_one (ps_if (PW.pt (pw_or (pt_not (pt_val (pe_callB call_isi (by rfl) T.isi boot_isinstance (pa_cons (pv 1) (pa_cons (pe_bltn (v := .ty "str") (by rfl) T.tstr boot_str rfl) pa_nil)))))
        (pw_or1 (pt_cmp (pc_dnotin hu (pv 1) (pe_fld (pv 0) rfl)))))) (pss_one ps_never) pss_nil), ?_⟩
    refine ⟨_, rfl, _, _, .type "str", .type "str", true, rfl, .ty _, .base (.str _), kit_ty (by decide +kernel), true, rfl, iteF ?_⟩
    refine ⟨_, rfl, _, rfl, s.p, CS, s.dx, _, _, rfl, S.ob, T.clS, T.nPo, sf_po _ _ _ _, s.d, _, rfl, S.get hi, false, rfl, iteF ?_⟩
    exact k
theorem scLen : FnScope ["self"] ["self"] (defScope sLength) := ⟨rfl, rfl, rfl, by decide +kernel, rfl, by decide +kernel, by decide +kernel⟩
theorem ok_length {f : Addr} {fd : FuncData} (T : Txt K mg CP CS) (F : FnP K "length" "Shares.length" sLength f fd) : FnOk P w K mg base CX0 1 f fd ["self"] (spLength CP CS) := by
  refine fn_ok F scLen (fun vs H Q E h => ?_) (fun cdv A outer s0 H vs Q E hr h => ?_)
  · obtain ⟨R, s, rfl, _⟩ := h
    rfl
  · obtain ⟨R, s, rfl, S, k⟩ := h
    exact ⟨_, pss_one (ps_ret (pe_fld (pv 0) rfl)), _, rfl, s.p, CS, s.dx, _, _, rfl, S.ob, T.clS, T.nOL, sf_ol _ _ _ _, k⟩
theorem scNms : FnScope ["self"] ["self"] (defScope sNames) := ⟨rfl, rfl, rfl, by decide +kernel, rfl, by decide +kernel, by decide +kernel⟩
theorem ok_names {f : Addr} {fd : FuncData} (T : Txt K mg CP CS) (F : FnP K "names" "Shares.names" sNames f fd) : FnOk P w K mg base CX0 1 f fd ["self"] (spNames CP CS) := by
  refine fn_ok F scNms (fun vs H Q E h => ?_) (fun cdv A outer s0 H vs Q E hr h => ?_)
  · obtain ⟨R, s, rfl, _⟩ := h
    rfl
  · obtain ⟨R, s, rfl, S, k⟩ := h
    refine ⟨_, pss_one (ps_ret (pe_callTy (call_list_dK rfl) (by rfl) T.tlist boot_list (pa_cons (pe_fld (pv 0) rfl) pa_nil))), ?_⟩
    refine ⟨_, rfl, s.p, CS, s.dx, _, _, rfl, S.ob, T.clS, T.nPo, sf_po _ _ _ _, s.d, kvsOf s.es, rfl, S.dc, fun q hq => ?_⟩
    have e1 : (kvsOf s.es).map (fun kv => kV kv.1) = (namesOf s.es).map V.str := by
      unfold kvsOf namesOf
      rw [List.map_map, List.map_map] <;> rfl
    rw [e1]
    exact k q hq
theorem scPrm : FnScope ["self", "name"] ["self", "name"] (defScope sPromise) := ⟨rfl, rfl, rfl, by decide +kernel, rfl, by decide +kernel, by decide +kernel⟩
theorem ok_promise {f : Addr} {fd : FuncData} (T : Txt K mg CP CS) (GN : MFn P w K mg base 1 CS "need_guest" ["self", "name"] (spNeedGuest CP CS)) (F : FnP K "promise" "Shares.promise" sPromise f fd) : FnOk P w K mg base CX0 2 f fd ["self", "name"] (spPromise CP CS) := by
  refine fn_ok F scPrm (fun vs H Q E h => ?_) (fun cdv A outer s0 H vs Q E hr h => ?_)
  · obtain ⟨R, s, i, e, rfl, _⟩ := h
    rfl
  · obtain ⟨R, s, i, e, rfl, S, hi, k⟩ := h
    have hu := hu_of hr
    obtain ⟨x, hx⟩ := S.po i e hi
    refine ⟨_, pss_cons (ps_expr (mcall GN hr (by decide) (pv 0) T.clS (pa_cons (pv 1) pa_nil))) (pss_one (ps_ret (pe_fld (pe_dget hu (pe_fld (pv 0) rfl) (pv 1) (fun _ _ => rfl)) rfl))), ?_⟩
    refine ⟨_, rfl, s.p, s.dx, _, rfl, S.ob, sf_n1 _ _ _ _, _, rfl, R, s, e.1, rfl, S, ix_mem hi, ?_⟩
    exact ⟨_, rfl, s.p, CS, s.dx, _, _, rfl, S.ob, T.clS, T.nPo, sf_po _ _ _ _, _, rfl, s.d, _, rfl, S.get hi, e.2.1, CP, x, _, _, rfl, hx, T.clP, T.nTP, pf_tp _, k⟩
theorem scPmd : FnScope ["self", "portion"] ["self"] (defScope sPromised) := ⟨rfl, rfl, rfl, by decide +kernel, rfl, by decide +kernel, by decide +kernel⟩
theorem tot_take {es : List Ent} {i : Nat} {e : Ent} (h : es[i]? = some e) : (es.take (i + 1)).map (fun e => e.2.2.tp) = (es.take i).map (fun e => e.2.2.tp) ++ [e.2.2.tp] := by
  rw [List.take_add_one, h, List.map_append] <;> rfl
theorem ok_promised {f : Addr} {fd : FuncData} (T : Txt K mg CP CS) (F : FnP K "promised" "Shares.promised" sPromised f fd) : FnOk P w K mg base CX0 1 f fd ["self"] (spPromised CP CS) := by
  refine fn_ok F scPmd (fun vs H Q E h => ?_) (fun cdv A outer s0 H vs Q E hr h => ?_)
  · obtain ⟨R, s, rfl, _⟩ := h
    rfl
  · obtain ⟨R, s, rfl, S, hlen, k⟩ := h
    refine ⟨_, pss_one (ps_ret (pe_callB (cr_sum rfl) (by rfl) T.sum boot_sum (pa_cons (pe_lock (pe_lc (own := [("portion", 1)]) (g := gName 1) (tt := tYes) (te := tFld K (tVar 1) "told_promise") rfl scPmd.nd (pi_values (pe_fld (pv 0) rfl)) (blkOk_by (N := ["self", "portion"]) (sc := defScope sPromised) (by decide +kernel))
      (fun _ _ _ _ _ => pg_name (i := 1) scPmd.nd rfl (Or.inl rfl)) (fun _ _ _ _ _ => pts_nil) (fun _ _ _ _ _ => pe_fld (pv 1) rfl))) pa_nil))), ?_⟩
    refine ⟨s.d, .dK (kvsOf s.es), S.dc, True.intro, fun od => ?_⟩
    have S1 := S.lock od
    refine ⟨_, rfl, s.p, CS, s.dx, _, _, rfl, S1.ob, T.clS, T.nPo, sf_po _ _ _ _, s.d, od, kvsOf s.es, rfl, S1.dc, fun D hD => ?_⟩
    refine lc_it walk_values (fun i H' => Same (upd H s.d (.frz od (.dK (kvsOf s.es)))) H' ∧ (upd H s.d (.frz od (.dK (kvsOf s.es)))) D = none ∧ H' D = some (.lst (((s.es.take i).map fun e => e.2.2.tp).map V.int))) ⟨same_new hD, hD, upd_same⟩ (fun i H' _ h => h.1 _ _ S1.dc) ?_ ?_
    · rintro i x H1 H2 hi ⟨s1, d0, d1⟩ ⟨rfl, kk, hk⟩
      rw [kvs_len] at hi
      obtain ⟨e, he⟩ : ∃ e, s.es[i]? = some e := ⟨s.es[i], List.getElem?_eq_getElem hi⟩
      rw [kvs_get he] at hk
      cases hk
      obtain ⟨dxe, hpo⟩ := (S1.same s1).po i e he
      refine ⟨rfl, _, rfl, e.2.1, CP, dxe, _, _, rfl, hpo, T.clP, T.nTP, pf_tp _, _, d1, ?_, ?_, d0, ?_⟩
      · rw [List.length_map, List.length_map, List.length_take]
        exact small1000 (by omega)
      · intro a o q
        rw [upd_ne (ne_of_none q d0)]
        exact s1 a o q
      · rw [upd_same, tot_take he, List.map_append] <;> rfl
    · rintro H1 ⟨s1, d0, d1⟩
      refine ⟨s1 _ _ S1.dc, ?_⟩
      have nD : D ≠ s.d := fun z => by
        rw [z, S1.dc] at d0
        cases d0
      refine ⟨D, (s.es.map fun e => e.2.2.tp), rfl, SqL.of ?_, ?_⟩
      · rw [upd_ne nD, d1, kvs_len, List.take_length]
      · exact k _ (lock_same S.dc s1)
theorem scDlt : FnScope ["self"] ["self"] (defScope sDealt) := ⟨rfl, rfl, rfl, by decide +kernel, rfl, by decide +kernel, by decide +kernel⟩
theorem ok_dealt {f : Addr} {fd : FuncData} (T : Txt K mg CP CS) (F : FnP K "dealt" "Shares.dealt" sDealt f fd) : FnOk P w K mg base CX0 1 f fd ["self"] (spDealt CP CS) := by
  refine fn_ok F scDlt (fun vs H Q E h => ?_) (fun cdv A outer s0 H vs Q E hr h => ?_)
  · obtain ⟨R, s, rfl, _⟩ := h
    rfl
  · obtain ⟨R, s, rfl, S, k⟩ := h
    exact ⟨_, pss_one (ps_ret (pe_callTy call_list_of (by rfl) T.tlist boot_list (pa_cons (pe_fld (pv 0) rfl) pa_nil))), _, rfl, s.p, CS, s.dx, _, _, rfl, S.ob, T.clS, T.nAD, sf_ad _ _ _ _, s.l, s.dl, rfl, .inl (SqL.of S.al), k⟩
end
end GA
namespace GA
set_option maxRecDepth 100000
set_option maxHeartbeats 4000000
open PySem PySem.Spec PyProof.Rows L2
section
variable {P : Program} {w : World} {K : PySem.W.Frag} {mg : Str → Option Value} {base : Heap} {CP CS : Addr}
/-! ### keyword-only parameters -/
theorem kbn_of {x qual : Str} {params : Arguments} {body : List Stmt} {scope : Scope} {f : Addr} {fd : FuncData} {ps : List Str} (F : FunD K x qual params body scope [] [] f fd) (n : Nat) (ks : List Str)
    (h : ∀ (kV doc pm : Value) (an : Option Addr) (cdv ct : Value) (us ws : List Value), us.length = n → ws.length = ks.length → bindArgs (PySem.W.fnOf x qual params body scope .none kV doc pm an cdv ct) ⟨us, ks.zip ws⟩ = pure (ps.zip (us ++ ws))) :
    KBn K fd ps n ks (fun us ws => us ++ ws) (fun vs zs => vs ++ zs) := by
  obtain ⟨oc, od, dV, kV, doc, pm, an, cdv, ct, osl, rfl, lk, hcd, hD, hK⟩ := F.ex
  rcases hD with ⟨_, rfl⟩ | ⟨e, _⟩
  · exact ⟨fun s us ws X l1 l2 => .of_eq (h kV doc pm an cdv ct us ws l1 l2), fun r1 r2 => r1.append r2⟩
  · exact absurd rfl e
/-- Portion(.., at_once=..) -/
structure GPort (P : Program) (w : World) (K : PySem.W.Frag) (mg : Str → Option Value) (base : Heap) (CP : Addr) : Prop where
  ex : ∃ (f : Addr) (fd : FuncData), FnOk P w K mg base CX0 1 f fd ["self", "promise", "ceiling", "at_once"] (spPInit CP) ∧ Mk K CP f ∧ KBn K fd ["self", "promise", "ceiling", "at_once"] 3 ["at_once"] (fun us ws => us ++ ws) (fun vs zs => vs ++ zs)
theorem kb_port {f : Addr} {fd : FuncData} (F : FnP K "__init__" "Portion.__init__" sPInit f fd) : KBn K fd ["self", "promise", "ceiling", "at_once"] 3 ["at_once"] (fun us ws => us ++ ws) (fun vs zs => vs ++ zs) :=
  kbn_of F 3 ["at_once"] fun _ _ _ _ _ _ us ws h1 h2 => match us, ws, h1, h2 with
    | [_, _, _], [_], _, _ => rfl
/-! ### need_room_for -/
def spNeedRoom (CP CS : Addr) : Sp := fun vs H Q _ => ∃ (R : Addr → Prop) (s : SS) (pr but : Int), vs = [.ref s.p, .int pr, .int but] ∧ Sh CP CS R H s ∧ s.es.length ≤ 100 ∧ tot s.es - but + pr ≤ s.L ∧ ∀ H', Same H H' → Q .non H'
structure GRoom (P : Program) (w : World) (K : PySem.W.Frag) (mg : Str → Option Value) (base : Heap) (CP CS : Addr) : Prop where
  ex : ∃ (f : Addr) (fd : FuncData), FnOk P w K mg base CX0 2 f fd ["self", "promise", "but"] (spNeedRoom CP CS) ∧ Meth K CS "need_room_for" f ∧ (∃ ds, Vals [V.int 0] ds ∧ Binds K fd ["self", "promise", "but"] ds) ∧
    ∃ g, KBn K fd ["self", "promise", "but"] 2 ["but"] g (fun vs zs => vs ++ zs)
abbrev FnRoom (K : PySem.W.Frag) (f : Addr) (fd : FuncData) : Prop := FunD K "need_room_for" "Shares.need_room_for" (defArgs sNeedRoom) (defBody sNeedRoom) (defScope sNeedRoom) [] [("but", V.int 0)] f fd
theorem scNR : FnScope ["self", "promise", "but", "together"] ["self", "promise", "but"] (defScope sNeedRoom) := ⟨rfl, rfl, rfl, by decide +kernel, rfl, by decide +kernel, by decide +kernel⟩
theorem ok_needroom {f : Addr} {fd : FuncData} (T : Txt K mg CP CS) (GP : MFn P w K mg base 1 CS "promised" ["self"] (spPromised CP CS)) (F : FnRoom K f fd) : FnOk P w K mg base CX0 2 f fd ["self", "promise", "but"] (spNeedRoom CP CS) := by
  refine fn_ok F scNR (fun vs H Q E h => ?_) (fun cdv A outer s0 H vs Q E hr h => ?_)
  · obtain ⟨R, s, pr, but, rfl, _⟩ := h
    rfl
  · obtain ⟨R, s, pr, but, rfl, S, hl, hle, k⟩ := h
    refine ⟨_, pss_cons (ps_set (i := 3) scNR.nd rfl (Or.inl rfl) (pe_op op_add (pe_op op_sub (mcall0 GP hr (by decide) (pv 0) T.clS) (pv 2)) (pv 1)))
      (pss_one (ps_if (pt_cmpR op_gt (pv 3) (pe_fld (pv 0) rfl) (nomark _)) (pss_one ps_never) pss_nil)), ?_⟩
    refine ⟨_, rfl, s.p, s.dx, _, rfl, S.ob, sf_n12 _ _ _ _, R, s, rfl, S, hl, fun H1 s1 => ?_⟩
    refine ⟨_, rfl, _, _, rfl, rfl, _, rfl, _, _, rfl, rfl, ?_⟩
    refine ⟨_, rfl, _, rfl, s.p, CS, s.dx, _, _, rfl, (S.same s1).ob, T.clS, T.nOL, sf_ol _ _ _ _, _, _, rfl, rfl, _, rfl, ?_⟩
    refine ite2 (fun h => ?_) (fun _ => k H1 s1)
    have q : s.L < tot s.es - but + pr := of_decide_eq_true h
    omega
theorem g_room {f : Addr} {fd : FuncData} (T : Txt K mg CP CS) (GP : MFn P w K mg base 1 CS "promised" ["self"] (spPromised CP CS)) (F : FnRoom K f fd) (hm : Meth K CS "need_room_for" f) : GRoom P w K mg base CP CS := by
  refine ⟨f, fd, ok_needroom T GP F, hm, ?_, ?_⟩
  · exact FunD.binds0 F 2 (by intro z; cases z) rfl fun D doc pm an cdv ct us ks h1 h2 => match us, ks, h1, h2 with
      | [_, _], [_], _, _ => ⟨_, _, _, _, _, _, rfl, rfl, rfl⟩
  · obtain ⟨mv, hk⟩ := FunD.kbinds0 (ps := ["self", "promise", "but"]) F 2 ["but"] [] (fun us _ ws => us ++ ws) (by intro z; cases z) (fun q hq => by cases hq) (fun r1 _ r3 => r1.append r3) fun D doc pm an cdv ct us mv ws h1 h2 h3 => match us, mv, ws, h1, h2, h3 with
      | [_, _], [], [_], _, _, _ => rfl
    exact ⟨_, hk⟩
end
end GA
namespace GA
set_option maxRecDepth 100000
set_option maxHeartbeats 4000000
open PySem PySem.Spec PyProof.Rows L2
section
variable {CP CS : Addr} {fz : Option Obj} {R : Addr → Prop} {H H' : Hp} {p dx d l : Addr} {L t : Int} {es : List Ent} {dl : List V} {i j : Nat} {e e' : Ent} {n : Str}
/-- a guest more -/
theorem ShAt.add (S : ShAt CP CS none R H p dx d l L t es dl) {x y : Addr} {q : Po} (hn : ¬ n ∈ namesOf es) (hx : H x = some (.ins CP y (pf q))) (nr : ¬ R x) :
    ShAt CP CS none (fun a => R a ∨ a = x) (upd H d (.dK (putK (kvsOf es) (Sum.inr n) (.ref x)))) p dx d l L t (es ++ [(n, x, q)]) dl := by
  have xd : x ≠ d := fun z => nr (by rw [z]; exact S.rd)
  have cas : ∀ (j : Nat) (e' : Ent), (es ++ [(n, x, q)])[j]? = some e' → es[j]? = some e' ∨ e' = (n, x, q) := fun j e' hj => by
    by_cases c : j < es.length
    · rw [List.getElem?_append_left c] at hj
      exact .inl hj
    · rw [List.getElem?_append_right (by omega)] at hj
      have hm := List.mem_of_getElem? hj
      exact .inr (List.mem_singleton.mp hm)
  have ek : putK (kvsOf es) (Sum.inr n) (.ref x) = kvsOf (es ++ [(n, x, q)]) := by
    rw [putK_new _ (val_none hn)]
    unfold kvsOf
    rw [List.map_append] <;> rfl
  refine ⟨by rw [upd_ne S.pd]; exact S.ob, by rw [upd_same, ek] <;> rfl, by rw [upd_ne S.dl_.symm]; exact S.al, fun j e' hj => ?_, ?_, ?_, fun j e' hj => ?_, .inl S.rp, .inl S.rd, .inl S.rl, fun j e' hj => ?_, fun a h => ?_⟩
  · rcases cas j e' hj with z | rfl
    · obtain ⟨y', hy⟩ := S.po j e' z
      exact ⟨y', by rw [upd_ne (S.ed z)]; exact hy⟩
    · exact ⟨y, by rw [upd_ne xd]; exact hx⟩
  · rw [List.map_append]
    exact nd_snoc S.nd hn
  · rw [List.map_append]
    refine nd_snoc S.na fun hm => ?_
    obtain ⟨e', he', q'⟩ := List.mem_map.mp hm
    obtain ⟨j, hj, q2⟩ := List.mem_iff_getElem.mp he'
    exact nr (by
      rw [← show e'.2.1 = x from q']
      exact S.re j e' (by rw [List.getElem?_eq_getElem hj, q2]))
  · rcases cas j e' hj with z | rfl
    · exact S.np j e' z
    · exact fun z => nr (by rw [show x = p from z]; exact S.rp)
  · rcases cas j e' hj with z | rfl
    · exact .inl (S.re j e' z)
    · exact .inr rfl
  · by_cases c : a = d
    · exact ⟨.dK _, by rw [c]; exact upd_same, True.intro⟩
    · rcases h with h | h
      · obtain ⟨o, q1, q2⟩ := S.dom a h
        exact ⟨o, by rw [upd_ne c]; exact q1, q2⟩
      · exact ⟨.ins CP y (pf q), by rw [upd_ne c, h]; exact hx, True.intro⟩
def outE (es : List Ent) (n : Str) : List Ent := es.filter fun e => decide (e.1 ≠ n)
theorem dropK_kvs (es : List Ent) (n : Str) : dropK (kvsOf es) (Sum.inr n) = kvsOf (outE es n) := by
  induction es with
  | nil => rfl
  | cons e r ih =>
    by_cases h : e.1 = n
    · have h1 : outE (e :: r) n = outE r n := by
        unfold outE
        rw [List.filter_cons_of_neg (by simp [h])]
      rw [h1, ← ih]
      exact dropK_pos (show (Sum.inr e.1 : Key) = Sum.inr n by rw [h])
    · have h1 : outE (e :: r) n = e :: outE r n := by
        unfold outE
        rw [List.filter_cons_of_pos (by simp [h])]
      rw [h1]
      show dropK ((Sum.inr e.1, V.ref e.2.1) :: kvsOf r) (Sum.inr n) = (Sum.inr e.1, V.ref e.2.1) :: kvsOf (outE r n)
      rw [dropK_neg (fun z => h (Sum.inr.inj z)), ih]
/-- a guest less -/
theorem ShAt.del (S : ShAt CP CS none R H p dx d l L t es dl) (n : Str) : ShAt CP CS none R (upd H d (.dK (dropK (kvsOf es) (Sum.inr n)))) p dx d l L t (outE es n) dl := by
  have cas : ∀ (j : Nat) (e' : Ent), (outE es n)[j]? = some e' → ∃ j', es[j']? = some e' := fun j e' hj => by
    have hm := (List.mem_filter.mp (List.mem_of_getElem? hj)).1
    obtain ⟨j', hj', q⟩ := List.mem_iff_getElem.mp hm
    exact ⟨j', by rw [List.getElem?_eq_getElem hj', q]⟩
  refine ⟨by rw [upd_ne S.pd]; exact S.ob, by rw [upd_same, dropK_kvs] <;> rfl, by rw [upd_ne S.dl_.symm]; exact S.al, fun j e' hj => ?_, ?_, ?_, fun j e' hj => ?_, S.rp, S.rd, S.rl, fun j e' hj => ?_, fun a h => ?_⟩
  · obtain ⟨j', z⟩ := cas j e' hj
    obtain ⟨y', hy⟩ := S.po j' e' z
    exact ⟨y', by rw [upd_ne (S.ed z)]; exact hy⟩
  · exact S.nd.sublist (List.Sublist.map _ List.filter_sublist)
  · exact S.na.sublist (List.Sublist.map _ List.filter_sublist)
  · obtain ⟨j', z⟩ := cas j e' hj
    exact S.np j' e' z
  · obtain ⟨j', z⟩ := cas j e' hj
    exact S.re j' e' z
  · by_cases c : a = d
    · exact ⟨.dK _, by rw [c]; exact upd_same, True.intro⟩
    · obtain ⟨o, q1, q2⟩ := S.dom a h
      exact ⟨o, by rw [upd_ne c]; exact q1, q2⟩
end
/-! ### come, go, change -/
def spCome (CP CS : Addr) : Sp := fun vs H Q _ => ∃ (R : Addr → Prop) (s : SS) (n : Str) (pr c : Int), vs = [.ref s.p, .str n, .int pr, .int c] ∧ Sh CP CS R H s ∧ OkName n ∧ ¬ n ∈ namesOf s.es ∧ s.es.length < 6 ∧
  0 ≤ pr ∧ pr ≤ s.L ∧ 1 ≤ c ∧ pr ≤ c ∧ c ≤ s.L ∧ tot s.es + pr ≤ s.L ∧
  ∀ (R' : Addr → Prop) (H' : Hp) (x : Addr), Sh CP CS R' H' { s with es := s.es ++ [(n, x, ⟨pr, c, if s.t = 0 then pr else 0, c, 0⟩)] } → Frm R H R' H' → Q .non H'
def spGo (CP CS : Addr) : Sp := fun vs H Q _ => ∃ (R : Addr → Prop) (s : SS) (n : Str), vs = [.ref s.p, .str n] ∧ Sh CP CS R H s ∧ n ∈ namesOf s.es ∧
  ∀ (H' : Hp), Sh CP CS R H' { s with es := outE s.es n } → Frm R H R H' → Q .non H'
def chg (t : Int) (q : Po) (pr c : Int) : Po := if t = 0 then beg { q with tp := pr, tc := c } else { q with tp := pr, tc := c }
def spChange (CP CS : Addr) : Sp := fun vs H Q _ => ∃ (R : Addr → Prop) (s : SS) (i : Nat) (e : Ent) (pr c : Int), vs = [.ref s.p, .str e.1, .int pr, .int c] ∧ Sh CP CS R H s ∧ s.es[i]? = some e ∧ s.es.length ≤ 100 ∧
  0 ≤ pr ∧ pr ≤ s.L ∧ 1 ≤ c ∧ pr ≤ c ∧ c ≤ s.L ∧ tot s.es - e.2.2.tp + pr ≤ s.L ∧
  ∀ (H' : Hp), Sh CP CS R H' { s with es := s.es.set i (e.1, e.2.1, chg s.t e.2.2 pr c) } → Frm R H R H' → Q .non H'
section
variable {P : Program} {w : World} {K : PySem.W.Frag} {mg : Str → Option Value} {base : Heap} {CP CS : Addr}
theorem scGo : FnScope ["self", "name"] ["self", "name"] (defScope sGo) := ⟨rfl, rfl, rfl, by decide +kernel, rfl, by decide +kernel, by decide +kernel⟩
theorem ok_go {f : Addr} {fd : FuncData} (T : Txt K mg CP CS) (GN : MFn P w K mg base 1 CS "need_guest" ["self", "name"] (spNeedGuest CP CS)) (F : FnP K "go" "Shares.go" sGo f fd) : FnOk P w K mg base CX0 2 f fd ["self", "name"] (spGo CP CS) := by
  refine fn_ok F scGo (fun vs H Q E h => ?_) (fun cdv A outer s0 H vs Q E hr h => ?_)
  · obtain ⟨R, s, n, rfl, _⟩ := h
    rfl
  · obtain ⟨R, s, n, rfl, S, hn, k⟩ := h
    obtain ⟨i, e, hi, rfl⟩ := name_ix hn
    refine ⟨_, pss_cons (ps_expr (mcall GN hr (by decide) (pv 0) T.clS (pa_cons (pv 1) pa_nil)))
      (pss_one (ps_expr (pe_dpop1 (pe_fld (pv 0) rfl) (pv 1) ⟨rfl, rfl, rfl, rfl⟩))), ?_⟩
    refine ⟨_, rfl, s.p, s.dx, _, rfl, S.ob, sf_n1 _ _ _ _, _, rfl, R, s, e.1, rfl, S, hn, ?_⟩
    refine ⟨_, rfl, s.p, CS, s.dx, _, _, rfl, S.ob, T.clS, T.nPo, sf_po _ _ _ _, s.d, rfl, .inl ⟨_, S.rd_⟩, _, rfl, kvsOf s.es, Sum.inr e.1, _, S.dc, rfl, val_at S.nd hi, ?_⟩
    exact k _ (S.del e.1) (Frm.refl.wr S.rd)
theorem scCome : FnScope ["self", "name", "promise", "ceiling"] ["self", "name", "promise", "ceiling"] (defScope sCome) := ⟨rfl, rfl, rfl, by decide +kernel, rfl, by decide +kernel, by decide +kernel⟩
theorem ok_come {f : Addr} {fd : FuncData} (T : Txt K mg CP CS) (GI : GFn P w K mg base 1 "is_name" ["thing"] spIsName) (GS : GFn P w K mg base 2 "need_share" ["length", "promise", "ceiling"] spNeedShare)
    (GR : GRoom P w K mg base CP CS) (GP : GPort P w K mg base CP) (F : FnP K "come" "Shares.come" sCome f fd) : FnOk P w K mg base CX0 3 f fd ["self", "name", "promise", "ceiling"] (spCome CP CS) := by
  obtain ⟨fR, fdR, okR, mR, ⟨ds, vR, bR⟩, _⟩ := GR.ex
  obtain ⟨fP, fdP, okP, mkP, kbP⟩ := GP.ex
  refine fn_ok F scCome (fun vs H Q E h => ?_) (fun cdv A outer s0 H vs Q E hr h => ?_)
  · obtain ⟨R, s, n, pr, c, rfl, _⟩ := h
    rfl
  · obtain ⟨R, s, n, pr, c, rfl, S, hok, hn, hl, h1, h2, h3, h4, h5, h6, k⟩ := h
    have hu := hu_of hr
    obtain ⟨tG, mG⟩ := T.guests
    have hr2 : Room 2 _ := hr.mono (by decide)
    refine ⟨_, pss_cons (ps_if (pt_not (pt_val (gcall GI hr (by decide) (by rfl) (pa_cons (pv 1) pa_nil)))) (pss_one ps_never) pss_nil)
      (pss_cons (ps_expr (gcall GS hr (by decide) (by rfl) (pa_cons (pe_fld (pv 0) rfl) (pa_cons (pv 2) (pa_cons (pv 3) pa_nil)))))
      (pss_cons (ps_if (pt_cmp (pc_din hu (pv 1) (pe_fld (pv 0) rfl))) (pss_one ps_never) pss_nil)
      (pss_cons (ps_if (pt_cmpR op_eq (pe_callB call_lenD (by rfl) T.len PySem.boot_len (pa_cons (pe_fld (pv 0) rfl) pa_nil)) (pe_glob (v := .int 6) rfl mG ⟨_, rfl⟩) (nomark _)) (pss_one ps_never) pss_nil)
      (pss_cons (ps_expr (pe_meth (pv 0) T.clS mR okR hr2 bR vR pass0 (pa_cons (pv 2) pa_nil)))
      (pss_one (ps_dput hu (pe_fld (pv 0) rfl) (pv 1) (pe_makeK (n := 2) mkP okP (hr.mono (by decide)) rfl T.mgP kbP pass0 (pa_cons (pv 2) (pa_cons (pv 3) pa_nil))
        (pk_cons (pe_cmpR op_eq (pe_fld (pv 0) rfl) pe_int (nomark _)) pk_nil)) rfl)))))), ?_⟩
    refine ⟨_, rfl, n, rfl, hok, fun H1 s1 => ⟨true, rfl, iteF ?_⟩⟩
    have S1 := S.same s1
    refine ⟨_, rfl, s.p, CS, s.dx, _, _, rfl, S1.ob, T.clS, T.nOL, sf_ol _ _ _ _, _, rfl, _, rfl, s.L, pr, c, rfl, h1, h2, h3, h4, h5, ?_⟩
    refine ⟨_, rfl, _, rfl, s.p, CS, s.dx, _, _, rfl, S1.ob, T.clS, T.nPo, sf_po _ _ _ _, s.d, _, rfl, S1.ask n, _, rfl, ?_⟩
    rw [val_none hn]
    refine iteF ?_
    refine ⟨_, rfl, s.p, CS, s.dx, _, _, rfl, S1.ob, T.clS, T.nPo, sf_po _ _ _ _, s.d, kvsOf s.es, rfl, S1.dc, rfl, _, rfl, ?_⟩
    refine ite2 (fun hq => ?_) (fun _ => ?_)
    · have e1 : V.int ((kvsOf s.es).length : Int) = V.int 6 := of_decide_eq_true hq
      have e2 : ((kvsOf s.es).length : Int) = 6 := V.int.inj e1
      rw [kvs_len] at e2
      omega
    · refine ⟨_, rfl, s.p, s.dx, _, rfl, S1.ob, sf_n2 _ _ _ _, _, rfl, R, s, pr, 0, rfl, S1, by omega, by omega, fun H2 s2 => ?_⟩
      have S2 := S1.same s2
      refine ⟨_, rfl, _, rfl, _, rfl, s.p, CS, s.dx, _, _, rfl, S2.ob, T.clS, T.nPa, sf_tp _ _ _ _, rfl, rfl, rfl, fun x y hx hy hxy => ?_⟩
      refine ⟨x, y, pr, c, _, rfl, upd_same, fun H3 h3' b3 => ⟨rfl, ?_⟩⟩
      have s3 : Same H2 H3 := fun a o e => b3 a o (by rw [upd_ne (ne_of_none e hx), upd_ne (ne_of_none e hy)]; exact e) (ne_of_none e hx)
      have S3 := S2.same s3
      have nR : ¬ R x := S2.dm.not hx
      refine ⟨_, rfl, s.p, CS, s.dx, _, _, rfl, S3.ob, T.clS, T.nPo, sf_po _ _ _ _, _, rfl, s.d, _, rfl, DPut.k (k := Sum.inr n) S3.dc (small1000 (by rw [kvs_len]; omega)), ?_⟩
      have hx0 : H x = none := s1.free (s2.free hx)
      have e0 : (if decide (V.int s.t = V.int 0) = true then pr else 0) = (if s.t = 0 then pr else 0) := by
        by_cases z : s.t = 0
        · rw [if_pos z, if_pos (decide_eq_true (by rw [z]))]
        · rw [if_neg z, if_neg (fun q => z (V.int.inj (of_decide_eq_true q)))]
      rw [e0] at h3'
      refine k (fun a => R a ∨ a = x) _ x (S3.add hn h3' nR) ?_
      refine ⟨fun a o q nq => ?_, fun a h => ?_⟩
      · rw [upd_ne (show a ≠ s.d from fun z => nq (by rw [z]; exact S.rd))]
        exact s3 a o (s2 a o (s1 a o q))
      · rcases h with h | h
        · exact .inl h
        · exact .inr (by rw [h]; exact hx0)
theorem scChg : FnScope ["self", "name", "promise", "ceiling", "portion"] ["self", "name", "promise", "ceiling"] (defScope sChange) := ⟨rfl, rfl, rfl, by decide +kernel, rfl, by decide +kernel, by decide +kernel⟩
theorem ok_change {f : Addr} {fd : FuncData} (T : Txt K mg CP CS) (GN : MFn P w K mg base 1 CS "need_guest" ["self", "name"] (spNeedGuest CP CS)) (GS : GFn P w K mg base 2 "need_share" ["length", "promise", "ceiling"] spNeedShare)
    (GR : GRoom P w K mg base CP CS) (GB : MFn P w K mg base 1 CP "begin" ["self"] (spPBegin CP)) (F : FnP K "change" "Shares.change" sChange f fd) : FnOk P w K mg base CX0 3 f fd ["self", "name", "promise", "ceiling"] (spChange CP CS) := by
  obtain ⟨fR, fdR, okR, mR, _, gR, bR⟩ := GR.ex
  refine fn_ok F scChg (fun vs H Q E h => ?_) (fun cdv A outer s0 H vs Q E hr h => ?_)
  · obtain ⟨R, s, i, e, pr, c, rfl, _⟩ := h
    rfl
  · obtain ⟨R, s, i, e, pr, c, rfl, S, hi, hl, h1, h2, h3, h4, h5, h6, k⟩ := h
    have hu := hu_of hr
    have hr2 : Room 2 _ := hr.mono (by decide)
    obtain ⟨x, hx⟩ := S.po i e hi
    refine ⟨_, pss_cons (ps_expr (mcall GN hr (by decide) (pv 0) T.clS (pa_cons (pv 1) pa_nil)))
      (pss_cons (ps_expr (gcall GS hr (by decide) (by rfl) (pa_cons (pe_fld (pv 0) rfl) (pa_cons (pv 2) (pa_cons (pv 3) pa_nil)))))
      (pss_cons (ps_set (i := 4) scChg.nd rfl (Or.inl rfl) (pe_dget hu (pe_fld (pv 0) rfl) (pv 1) (fun _ _ => rfl)))
      (pss_cons (ps_expr (pe_methN (n := 1) (pv 0) T.clS mR okR hr2 bR pass0 (pa_cons (pv 2) pa_nil) (pk_cons (pe_fld (pv 4) rfl) pk_nil)))
      (pss_cons (ps_asg (pe_tup (pa_cons (pv 2) (pa_cons (pv 3) pa_nil))) (pg_tup rfl (pgs_cons (pg_fld (pv 4)) (pgs_cons (pg_fld (pv 4)) pgs_nil))))
      (pss_one (ps_if (pt_cmpR op_eq (pe_fld (pv 0) rfl) pe_int (nomark _)) (pss_one (ps_expr (mcall0 GB hr (by decide) (pv 4) T.clP))) pss_nil)))))), ?_⟩
    refine ⟨_, rfl, s.p, s.dx, _, rfl, S.ob, sf_n1 _ _ _ _, _, rfl, R, s, e.1, rfl, S, ix_mem hi, ?_⟩
    refine ⟨_, rfl, s.p, CS, s.dx, _, _, rfl, S.ob, T.clS, T.nOL, sf_ol _ _ _ _, _, rfl, _, rfl, s.L, pr, c, rfl, h1, h2, h3, h4, h5, ?_⟩
    refine ⟨_, rfl, s.p, CS, s.dx, _, _, rfl, S.ob, T.clS, T.nPo, sf_po _ _ _ _, _, rfl, s.d, _, rfl, S.get hi, ?_⟩
    refine ⟨_, rfl, s.p, s.dx, _, rfl, S.ob, sf_n2 _ _ _ _, _, rfl, _, rfl, e.2.1, CP, x, _, _, rfl, hx, T.clP, T.nTP, pf_tp _, rfl, rfl, R, s, pr, e.2.2.tp, rfl, S, hl, h6, fun H1 s1 => ?_⟩
    have S1 := S.same s1
    have hx1 := s1 _ _ hx
    refine ⟨_, rfl, _, rfl, (by show 2 ≤ sizeLine; decide), fun t ht => ?_⟩
    have nat : e.2.1 ≠ t := ne_of_none hx1 ht
    refine ⟨t, _, rfl, SqT.of upd_same, rfl, _, _, rfl, ?_⟩
    refine ⟨_, rfl, e.2.1, CP, x, _, rfl, (by rw [upd_ne nat]; exact hx1), T.clP, T.nTP, pf_len _, _, _, rfl, ?_⟩
    refine ⟨_, rfl, e.2.1, CP, x, _, rfl, upd_same, T.clP, T.nTC, (by rw [pf_tpP]; exact pf_len _), rfl, ?_⟩
    have e1 : putF "told_ceiling" (.int c) (putF "told_promise" (.int pr) (pf e.2.2)) = pf { e.2.2 with tp := pr, tc := c } := by rw [pf_tpP, pf_tcP] <;> rfl
    have b1 : But e.2.1 H (upd (upd (upd H1 t (.tup [.int pr, .int c])) e.2.1 (.ins CP x (putF "told_promise" (.int pr) (pf e.2.2)))) e.2.1 (.ins CP x (putF "told_ceiling" (.int c) (putF "told_promise" (.int pr) (pf e.2.2))))) := fun a o q n => by
      rw [upd_ne n, upd_ne n, upd_ne (ne_of_none (s1 a o q) ht)]
      exact s1 a o q
    have hx2 : (upd (upd (upd H1 t (.tup [.int pr, .int c])) e.2.1 (.ins CP x (putF "told_promise" (.int pr) (pf e.2.2)))) e.2.1 (.ins CP x (putF "told_ceiling" (.int c) (putF "told_promise" (.int pr) (pf e.2.2))))) e.2.1 = some (.ins CP x (pf { e.2.2 with tp := pr, tc := c })) := by
      rw [upd_same, e1]
    have S2 := S.setP hi b1 hx2
    have fr : ∀ {H' : Hp}, But e.2.1 H H' → Frm R H R H' := fun {H'} b => ⟨fun a o q n => b a o q fun z => n (by rw [z]; exact S.re i e hi), fun _ h => .inl h⟩
    refine ⟨_, rfl, s.p, CS, s.dx, _, _, rfl, S2.ob, T.clS, T.nPa, sf_tp _ _ _ _, rfl, _, rfl, ?_⟩
    refine ite2 (fun hq => ?_) (fun hq => ?_)
    · have z : s.t = 0 := V.int.inj (of_decide_eq_true hq)
      refine ⟨_, rfl, e.2.1, x, _, rfl, hx2, pf_beg _, e.2.1, x, _, rfl, hx2, fun H3 h3' b3 => ?_⟩
      have e2 : chg s.t e.2.2 pr c = beg { e.2.2 with tp := pr, tc := c } := if_pos z
      refine k _ ?_ (fr (b1.trans b3))
      rw [e2]
      exact S.setP hi (b1.trans b3) h3'
    · have z : ¬ s.t = 0 := fun z => hq (decide_eq_true (by rw [z]))
      have e2 : chg s.t e.2.2 pr c = { e.2.2 with tp := pr, tc := c } := if_neg z
      refine k _ ?_ (fr b1)
      rw [e2]
      exact S2
end
end GA
namespace GA
set_option maxRecDepth 100000
set_option maxHeartbeats 4000000
open PySem PySem.Spec PyProof.Rows L2
/-! ### promised_one -/
def ov : Option Str → V
  | none => .non
  | some n => .str n
theorem inV_str (n : Str) : ∀ ns : List Str, inV (.str n) (ns.map V.str) = decide (n ∈ ns)
  | [] => by simp [inV]
  | m :: r => by
    have ih := inV_str n r
    unfold inV at ih ⊢
    rw [List.map_cons, List.any_cons, ih]
    show ((m == n) || decide (n ∈ r)) = decide (n ∈ m :: r)
    by_cases h : m = n
    · subst h
      simp
    · have h' : ¬ n = m := fun z => h z.symm
      simp [h, h']
theorem flat_str (ns : List Str) : (ns.map V.str).all flatV = true := by
  rw [List.all_eq_true]
  intro v hv
  obtain ⟨n, _, rfl⟩ := List.mem_map.mp hv
  rfl
def Bnd (es : List Ent) : Prop := ∀ (i : Nat) (e : Ent), es[i]? = some e → 0 ≤ e.2.2.u ∧ e.2.2.u ≤ 1000 ∧ 0 ≤ e.2.2.np ∧ e.2.2.np ≤ 1000
/-- what promised_one finds among the first i -/
def PCond (ns : List Str) (es : List Ent) (m : Nat) : Option Str → Prop
  | none => ∀ (i : Nat) (e : Ent), i < m → es[i]? = some e → e.1 ∈ ns → ¬ e.2.2.u < e.2.2.np
  | some n => ∃ (i : Nat) (e : Ent), es[i]? = some e ∧ e.1 = n ∧ n ∈ ns ∧ e.2.2.u < e.2.2.np
def spPromisedOne (CP CS : Addr) : Sp := fun vs H Q _ => ∃ (R : Addr → Prop) (s : SS) (r : Addr) (ns : List Str), vs = [.ref s.p, .ref r] ∧ Sh CP CS R H s ∧ H r = some (.lst (ns.map V.str)) ∧ Bnd s.es ∧
  ∀ (b : Option Str) (H' : Hp), Same H H' → PCond ns s.es s.es.length b → Q (ov b) H'
section
variable {P : Program} {w : World} {K : PySem.W.Frag} {mg : Str → Option Value} {base : Heap} {CP CS : Addr}
theorem scPO : FnScope ["self", "ready", "best", "name", "portion", "kept"] ["self", "ready"] (defScope sPromisedOne) := ⟨rfl, rfl, rfl, by decide +kernel, rfl, by decide +kernel, by decide +kernel⟩
theorem ok_promisedone {f : Addr} {fd : FuncData} (T : Txt K mg CP CS) (F : FnP K "promised_one" "Shares.promised_one" sPromisedOne f fd) : FnOk P w K mg base CX0 1 f fd ["self", "ready"] (spPromisedOne CP CS) := by
  refine fn_ok F scPO (fun vs H Q E h => ?_) (fun cdv A outer s0 H vs Q E hr h => ?_)
  · obtain ⟨R, s, r, ns, rfl, _⟩ := h
    rfl
  · obtain ⟨R, s, r, ns, rfl, S, hR, hB, k⟩ := h
    have hu := hu_of hr
    refine ⟨_, pss_cons (ps_set (i := 2) scPO.nd rfl (Or.inl rfl) pe_non)
      (pss_cons (ps_lock (ps_for PassesOwn.never rfl (pi_items (pe_fld (pv 0) rfl)) (pg_tup rfl (pgs_cons (pg_name (i := 3) scPO.nd rfl (Or.inl rfl)) (pgs_cons (pg_name (i := 4) scPO.nd rfl (Or.inl rfl)) pgs_nil)))
        (pss_one (ps_if (PW.pt (pw_and (pt_cmpR op_in_seq (pv 3) (pv 1) (by rfl)) (pw_and1 (pt_cmpR op_lt (pe_fld (pv 4) rfl) (pe_fld (pv 4) rfl) (nomark _)))))
          (pss_cons (ps_set (i := 5) scPO.nd rfl (Or.inl rfl) (pe_dget hu (pe_fld (pv 0) rfl) (pe_ifExp (pt_cmp (pc_isN (pv 2))) (pv 3) (pv 2)) (fun _ _ => rfl)))
          (pss_one (ps_if (PW.pt (pw_or (pt_cmp (pc_isN (pv 2))) (pw_or1 (pt_cmpR op_lt (pe_op op_mul (pe_fld (pv 4) rfl) (pe_fld (pv 5) rfl)) (pe_op op_mul (pe_fld (pv 5) rfl) (pe_fld (pv 4) rfl)) (nomark _)))))
            (pss_one (ps_set (i := 2) scPO.nd rfl (Or.inl rfl) (pv 3))) pss_nil))) pss_nil))))
      (pss_one (ps_ret (pv 2)))), ?_⟩
    refine ⟨s.d, .dK (kvsOf s.es), S.dc, True.intro, fun od => ?_⟩
    have S1 := S.lock od
    have nrd : r ≠ s.d := ne_of hR S.dc (by intro z; cases z)
    have hR1 : upd H s.d (.frz od (.dK (kvsOf s.es))) r = some (.lst (ns.map V.str)) := by rw [upd_ne nrd]; exact hR
    refine ⟨_, rfl, s.p, CS, s.dx, _, _, rfl, S1.ob, T.clS, T.nPo, sf_po _ _ _ _, s.d, od, kvsOf s.es, rfl, S1.dc, ?_⟩
    refine for_it walk_items (fun i σ H' => Same (upd H s.d (.frz od (.dK (kvsOf s.es)))) H' ∧ ∃ (b : Option Str) (v3 v4 v5 : Option V), σ = [some (.ref s.p), some (.ref r), some (ov b), v3, v4, v5] ∧ PCond ns s.es i b)
      ⟨Same.refl _, none, none, none, none, rfl, fun i e hi => absurd hi (Nat.not_lt_zero _)⟩ (fun i σ H' _ h => h.1 _ _ S1.dc) ?_ ?_
    · rintro i x σ H1 H2 hi ⟨s1, b, v3, v4, v5, rfl, hb⟩ ⟨t, y, z, rfl, ht, rfl, hy, hz⟩
      rw [kvs_len] at hi
      obtain ⟨e, he⟩ : ∃ e, s.es[i]? = some e := ⟨s.es[i], List.getElem?_eq_getElem hi⟩
      have hy' : Option.map (fun kv : Key × V => kV kv.1) (kvsOf s.es)[i]? = some y := hy
      have hz' : Option.map Prod.snd (kvsOf s.es)[i]? = some z := hz
      rw [kvs_get he] at hy' hz'
      cases hy'
      cases hz'
      have s2 : Same (upd H s.d (.frz od (.dK (kvsOf s.es)))) (upd H1 t (.tup [.str e.1, .ref e.2.1])) := s1.trans (same_new ht)
      have S2 := S1.same s2
      obtain ⟨dxe, hpo⟩ := S2.po i e he
      obtain ⟨hb1, hb2, hb3, hb4⟩ := hB i e he
      refine ⟨t, _, rfl, SqT.of upd_same, rfl, _, _, rfl, _, _, rfl, rfl, ?_⟩
      refine ⟨_, rfl, _, rfl, r, ns.map V.str, rfl, .inl (SqL.of (s2 _ _ hR1)), rfl, flat_str ns, _, rfl, ?_⟩
      -- keeping the old best
      have stay : (e.1 ∈ ns → ¬ e.2.2.u < e.2.2.np) → PCond ns s.es (i + 1) b := fun hno => by
        cases b with
        | some n => exact hb
        | none =>
          intro j e' hj he' hm
          by_cases c : j = i
          · subst c
            rw [he] at he'
            cases he'
            exact hno hm
          · exact hb j e' (by omega) he' hm
      have e1 : (if false = true then !inV (.str e.1) (ns.map V.str) else inV (.str e.1) (ns.map V.str)) = decide (e.1 ∈ ns) := inV_str e.1 ns
      show (if (if false = true then !inV (.str e.1) (ns.map V.str) else inV (.str e.1) (ns.map V.str)) = true then _ else _)
      rw [e1]
      refine ite2 (fun hm => ?_) (fun hm => ?_)
      · have hm' : e.1 ∈ ns := of_decide_eq_true hm
        refine ⟨_, rfl, e.2.1, CP, dxe, _, _, rfl, hpo, T.clP, T.nTU, pf_u _, _, rfl, e.2.1, CP, dxe, _, _, rfl, hpo, T.clP, T.nNP, pf_np _, _, _, rfl, rfl, _, rfl, ?_⟩
        refine ite2 (fun hlt => ?_) (fun hlt => ?_)
        · have hlt' : e.2.2.u < e.2.2.np := of_decide_eq_true hlt
          have took : PCond ns s.es (i + 1) (some e.1) := ⟨i, e, he, rfl, hm', hlt'⟩
          cases b with
          | none =>
            refine ⟨_, rfl, s.p, CS, s.dx, _, _, rfl, S2.ob, T.clS, T.nPo, sf_po _ _ _ _, _, rfl, true, rfl, iteT ?_⟩
            refine ⟨_, rfl, s.d, _, rfl, S2.get he, ?_⟩
            refine ⟨_, rfl, true, rfl, iteT ?_⟩
            exact ⟨_, rfl, s2, some e.1, _, _, _, rfl, took⟩
          | some n =>
            obtain ⟨j, e', he', rfl, hm2, hlt2⟩ := hb
            obtain ⟨dx2, hpo2⟩ := S2.po j e' he'
            obtain ⟨hc1, hc2, hc3, hc4⟩ := hB j e' he'
            refine ⟨_, rfl, s.p, CS, s.dx, _, _, rfl, S2.ob, T.clS, T.nPo, sf_po _ _ _ _, _, rfl, false, rfl, iteF ?_⟩
            refine ⟨_, rfl, s.d, _, rfl, S2.get he', ?_⟩
            refine ⟨_, rfl, false, rfl, iteF ?_⟩
            refine ⟨_, rfl, e.2.1, CP, dxe, _, _, rfl, hpo, T.clP, T.nTU, pf_u _, _, rfl, e'.2.1, CP, dx2, _, _, rfl, hpo2, T.clP, T.nNP, pf_np _, _, _, rfl, rfl, .inl ⟨by omega, by omega⟩,
              _, rfl, e'.2.1, CP, dx2, _, _, rfl, hpo2, T.clP, T.nTU, pf_u _, _, rfl, e.2.1, CP, dxe, _, _, rfl, hpo, T.clP, T.nNP, pf_np _, _, _, rfl, rfl, .inl ⟨by omega, by omega⟩, _, _, rfl, rfl, _, rfl, ?_⟩
            refine ite2 (fun _ => ?_) (fun _ => ?_)
            · exact ⟨_, rfl, s2, some e.1, _, _, _, rfl, took⟩
            · exact ⟨s2, some e'.1, _, _, _, rfl, ⟨j, e', he', rfl, hm2, hlt2⟩⟩
        · exact ⟨s2, b, _, _, _, rfl, stay fun _ z => hlt (decide_eq_true z)⟩
      · exact ⟨s2, b, _, _, _, rfl, stay fun z => absurd (decide_eq_true z) hm⟩
    · rintro σ H1 ⟨s1, b, v3, v4, v5, rfl, hb⟩
      refine ⟨s1 _ _ S1.dc, _, rfl, ?_⟩
      rw [kvs_len] at hb
      exact k b _ (lock_same S.dc s1) hb
end
end GA
namespace GA
set_option maxRecDepth 100000
set_option maxHeartbeats 4000000
open PySem PySem.Spec PyProof.Rows L2
/-! ### min(xs, key=f, default=None): one of xs, or None; f any function that tells ints and leaves the heap -/
theorem walk_own {prog : Program} {w : World} {A : Around} (hh : A.handled = none) (I l : Addr) (hne : l ≠ I) (xs : List V) :
    WalksS prog w A I [I, l] [I] (fun a b => b = a) xs.length (fun i v => ∃ x, xs[i]? = some x ∧ RelV x v) (fun i s => s.heap.IsListIter I l i ∧ ∃ its : List Value, Vals xs its ∧ s.heap.IsList l its.toArray) where
  sub := fun b hb => List.mem_cons.mpr (.inl (List.mem_singleton.mp hb))
  grefl := fun _ => rfl
  gtrans := fun a b c h1 h2 => h2.trans h1
  frame := fun i s h' tk st ht k => by
    obtain ⟨it, its, rv, hl⟩ := st
    exact (fun q => ⟨q.1, its, rv, q.2⟩) ((Walks.list (prog := prog) (w := w) (A := A) hh I l hne its.toArray).toS.frame i s h' tk ⟨it, hl⟩ ht k)
  item := fun i s Q E hi st hQ => by
    obtain ⟨it, its, rv, hl⟩ := st
    refine (Walks.list (prog := prog) (w := w) (A := A) hh I l hne its.toArray).toS.item i s Q E (by rw [List.size_toArray, ← rv.length]; exact hi) ⟨it, hl⟩ fun v s' hP hst hm => ?_
    refine hQ v s' ?_ ⟨hst.1, its, rv, hst.2⟩ hm
    have hv : its[i]? = some v := by simpa using hP
    obtain ⟨u, hu, ru⟩ := rv.get (i := i) (x := xs[i]) (List.getElem?_eq_getElem hi)
    rw [hv] at hu
    cases hu
    exact ⟨xs[i], List.getElem?_eq_getElem hi, ru⟩
  done := fun s Q E st hQ => by
    obtain ⟨it, its, rv, hl⟩ := st
    refine (Walks.list (prog := prog) (w := w) (A := A) hh I l hne its.toArray).toS.done s Q E ?_ fun s' hm => hQ s' hm
    rw [List.size_toArray, ← rv.length]
    exact ⟨it, hl⟩
  self := fun i s Q E st hQ => by
    obtain ⟨it, its, rv, hl⟩ := st
    exact (Walks.list (prog := prog) (w := w) (A := A) hh I l hne its.toArray).toS.self i s Q E ⟨it, hl⟩ hQ
section
variable {X : Cx} {pins : List (Addr × Obj)} {σ : L2.St} {H : Hp} {s : Shared}
theorem min_run {Q : VK} {l f : Addr} {xs : List V} {kf : Nat → Int} {E : Value → Shared → Prop} (I : Inv X pins σ H s) (hd : X.A.handled = none) (hl : SqL X.K H l xs)
    (call_ : ∀ (i : Nat) (x : V) (v : Value) (s' : Shared), xs[i]? = some x → RelV x v → Inv X pins σ H s' →
      wpAny (model X.prog X.w) X.A.in1 (call (.ref f) [v]) (fun u s'' => CE X.stack X.prog X.w H s' (fun y H' => y = .int (kf i) ∧ H' = H) u s'') (fun _ _ => False) s')
    (h0 : xs = [] → Q .non H) (h1 : ∀ (i : Nat) (x : V), xs[i]? = some x → Q x H) :
    wpAny (model X.prog X.w) X.A (call (.builtin "min") [.ref l] [(Str.ofString "key", .ref f), (Str.ofString "default", .none)]) (EP X pins σ Q) E s := by
  obtain ⟨its, rv, pl, hz⟩ := I.list hl
  have hh : X.A.in1.handled = none := hd
  have hlt : l < s.heap.objs.size := by
    obtain ⟨o, n, e, _⟩ := pl
    exact Heap.lt_size e
  refine PySem.call_min_walkKD ?_
  refine wpAny_pyIter_list pl.isList ?_
  have hne : l ≠ s.heap.objs.size := Nat.ne_of_lt hlt
  have hI := I.fpOk (H' := H) (Nat.le_refl s.heap.objs.size) (I.hok.fresh (Nat.le_refl _))
  have hS := I.fpOk (H' := H) (b := (s.heap.push { cls := .type "list_iterator", data := .fields #[.ref l, .int 0 0] }).objs.size) (by rw [Heap.size_push]; exact Nat.le_succ _) (I.hok.fresh (by rw [Heap.size_push]; exact Nat.le_succ _))
  have J0 : Inv X pins σ H { s with heap := s.heap.push { cls := .type "list_iterator", data := .fields #[.ref l, .int 0 0] } } := I.kept (t' := s.toks) fun b o e => Heap.get?_push_of_some _ e
  have keepJ : ∀ (t t' : Shared), Inv X pins σ H t → Moved ((s.heap.push { cls := .type "list_iterator", data := .fields #[.ref l, .int 0 0] }).objs.size :: [s.heap.objs.size]) (fun a b => b = a) t t' → Inv X pins σ H t' := fun t t' J m => by
    obtain ⟨h', g', d', k', o'⟩ := t'
    obtain ⟨m1, m2, m3, m4, m5⟩ := m
    have e2 : g' = t.gens := m2
    have e3 : d' = t.drawn := m3
    have e4 : o' = t.os := m4
    subst e2 e3 e4
    exact J.turnedL (ch := [(s.heap.push { cls := .type "list_iterator", data := .fields #[.ref l, .int 0 0] }).objs.size, s.heap.objs.size]) (fun b o hb e => m1 b o hb e) fun b hb => by
      rcases List.mem_cons.mp hb with e | hb
      · rw [e]
        exact hS
      · rw [List.mem_singleton.mp hb]
        exact hI
  refine ⟨s.heap.objs.size, [s.heap.objs.size, l], [s.heap.objs.size], fun a b => b = a, xs.length, fun i v => ∃ x, xs[i]? = some x ∧ RelV x v, _, fun t => Inv X pins σ H t, fun i k _ => ∃ t, k = .int (kf i) t, fun i j => decide (kf i < kf j), rfl,
    walk_own hh s.heap.objs.size l hne xs, ⟨⟨_, Heap.get?_push_size _ rfl, rfl, rfl⟩, its, rv, pl.isList.push _⟩, fun b hb => ?_, ⟨keepJ, fun i k t t' h _ => h, ?_, ?_⟩, J0, fun hn t J => ⟨.non, H, J, rfl, h0 (List.eq_nil_of_length_eq_zero hn)⟩, fun hn v t hP J => ?_⟩
  · show b < (s.heap.push _).objs.size
    rw [Heap.size_push]
    rcases List.mem_cons.mp hb with rfl | hb
    · exact Nat.lt_succ_self _
    · rw [List.mem_singleton.mp hb]
      exact Nat.lt_succ_of_lt hlt
  · intro i v t o Q' E' hi hP J hst hSo hk
    obtain ⟨x, hx, rx⟩ := hP
    refine wpAny_mono (call_ i x v t hx rx J) (fun u t' hc => ?_) fun _ _ z => z.elim
    obtain ⟨y, H', os, bare, un, hok, ry, ey, eH⟩ := id hc
    subst ey eH
    obtain ⟨y2, H2, J2, _, _, eH2⟩ := J.after hc
    subst eH2
    have kI : ∀ o, t.heap.get? s.heap.objs.size = some o → t'.heap.get? s.heap.objs.size = some o := fun o e => un.keep _ o e hI.1 (fun z => by
      rcases List.mem_cons.mp (J.stkSub _ z) with q | q
      · exact hI.2.1 q
      · exact hI.2.2.1 q) (by simp)
    have kS : t'.heap.get? (s.heap.push { cls := .type "list_iterator", data := .fields #[.ref l, .int 0 0] }).objs.size = some o := un.keep _ o hSo hS.1 (fun z => by
      rcases List.mem_cons.mp (J.stkSub _ z) with q | q
      · exact hS.2.1 q
      · exact hS.2.2.1 q) (by simp)
    obtain ⟨its2, rv2, pl2, _⟩ := J2.list hl
    exact hk u t' J2 ⟨hst.1.at kI, its2, rv2, pl2.isList⟩ kS ry fun j k' h => h
  · intro i j ki kj t Q' E' J h1 h2 hq
    obtain ⟨t1, rfl⟩ := h1
    obtain ⟨t2, rfl⟩ := h2
    exact CmpOf.ints_lt (prog := X.prog) (w := X.w) (A := X.A.in1) (P := fun i v => ∃ t, v = .int (kf i) t) kf (fun i v h => h) i j _ _ _ _ _ ⟨t1, rfl⟩ ⟨t2, rfl⟩ hq
  · obtain ⟨x, hx, rx⟩ := hP
    exact ⟨x, H, J, rx, h1 _ x hx⟩
end
end GA
namespace GA
set_option maxRecDepth 100000
set_option maxHeartbeats 4000000
open PySem PySem.Spec PyProof.Rows L2 LamX NdefX
/-! ### a lambda with parameters, as a value: its function object is known -/
def LamO (f : Addr) (F : NF) (e : Expr) : HO := .ext fun h => ∃ (od : Option Addr) (sl : Array (Option Value)) (pm ctv : Value), h.get? f = some (⟨.type "function", od, .func (PySem.W.kla_fn F.name F.qual F.params e F.scope F.cl pm (.ref F.c) ctv), sl⟩ : Obj)
theorem lamO_ne {f : Addr} {F : NF} {e : Expr} (ps : Array Value) : LamO f F e ≠ .tbl ps := fun z => by
  unfold LamO at z
  cases z
theorem lamO_at {P : Program} {w : World} {H : Hp} {h : Heap} {f : Addr} {F : NF} {e : Expr} (hok : HOk P w H h) (q : H f = some (LamO f F e)) :
    ∃ (od : Option Addr) (sl : Array (Option Value)) (pm ctv : Value), h.get? f = some (⟨.type "function", od, .func (PySem.W.kla_fn F.name F.qual F.params e F.scope F.cl pm (.ref F.c) ctv), sl⟩ : Obj) := by
  obtain ⟨z, _, _⟩ := hok f _ q
  exact z
section
variable {X : Cx} {pins : List (Addr × Obj)} {σ : L2.St} {H : Hp} {s : Shared}
theorem inv_lam {F : NF} {e : Expr} {o : Obj} {t' : Nat} {pm ctv : Value} (I : Inv X pins σ H s) (ho : o = { cls := .type "function", data := .func (PySem.W.kla_fn F.name F.qual F.params e F.scope F.cl pm (.ref F.c) ctv) }) :
    Inv X pins σ (upd H s.heap.objs.size (LamO s.heap.objs.size F e)) { s with heap := s.heap.push o, toks := t' } := by
  subst ho
  refine I.laid (a := s.heap.objs.size) (fun b u q => Heap.get?_push_of_some _ q) (Nat.le_refl _) ?_
  have q : (s.heap.push ({ cls := .type "function", data := .func (PySem.W.kla_fn F.name F.qual F.params e F.scope F.cl pm (.ref F.c) ctv) } : Obj)).get? s.heap.objs.size = some ({ cls := .type "function", data := .func (PySem.W.kla_fn F.name F.qual F.params e F.scope F.cl pm (.ref F.c) ctv) } : Obj) := Heap.get?_push_size _ rfl
  exact ⟨⟨_, _, pm, ctv, q⟩, ⟨_, q⟩, fun h1 h2 ⟨od, sl, p, t, z⟩ st => ⟨od, sl, p, t, st _ z⟩⟩
theorem lam_makeT {T : List (Addr × Str)} {c P : Addr} {params : Arguments} {body : Expr} {scope : Scope} {pos : Pos} {E : Value → Shared → Prop} {Q : Value → Shared → Prop} (I : Inv X pins σ H s) (TB : TabB X.base X.mg c P) (hcode : X.env.code = .ref c)
    (hm : (P, X.env.qual ++ "<lambda>") ∈ T) (hu : ∀ p ∈ T, p.1 = P → p.2 = X.env.qual ++ "<lambda>") (hT : Tabs T H) (hdef : defaultsOf params X.env = ([], [])) (hfree : ∀ y ∈ scope.names, y.2 = .free → ∃ c, X.env.cells.lookup y.1 = some c)
    (h : ∀ (f c' : Addr) (H1 : Hp) (s' : Shared), Inv X pins σ H1 s' → ExtN H H1 → (∀ b, H1 b = Option.none → H b = Option.none) → Tabs T H1 → H f = none →
      H1 f = some (LamO f ⟨"<lambda>", X.env.qual ++ "<lambda>", params, [], scope, cloFrom X.env.cells scope.names [], c'⟩ body) → H1 c' = some (CodeO c' (X.env.qual ++ "<lambda>")) → Q (.ref f) s') :
    wpAny (model X.prog X.w) X.A (eval (.Lambda params body scope pos) X.env) Q E s := by
  obtain ⟨ps, hP, ht, ha⟩ := hT _ hm
  refine PySem.W.kla_eval hdef ?_
  have bP : s.heap.BuiltinsAt X.mg P := TB.bm.keeps I.bk
  have hP' : s.heap.get? P = some { cls := .none, data := .fields ps } := I.hok P _ hP
  cases hc : codeAmong pos ps.toList with
  | none =>
    refine PySem.W.kla_makeFunction (mg := X.mg) (c := c) (P := P) (ps := ps) (closure_ok hfree) I.ok.glob (I.mod.glob.keeps I.bk) hcode (TB.code.keeps I.bk) hP' ht hc TB.gP bP fun c' ctv h' tk hx hge hlt hrec htb => ?_
    obtain ⟨c2, oc, vs, t, e2, hoc, hd, hv⟩ := hrec
    cases e2
    have nC : H c' = none := I.hok.fresh hge
    have I1 := inv_table (t' := tk) (more := #[rawInt pos.line, rawInt pos.col, .ref c']) (h' := h') I hP (fun b o hb e => hx b o hb e) htb hge ⟨oc, vs, t, hoc, hd, hv⟩
    have hE : ExtN H (upd (upd H P (.tbl (ps ++ #[rawInt pos.line, rawInt pos.col, .ref c']))) c' (CodeO c' (X.env.qual ++ "<lambda>"))) := fun b o e n => by
      rw [upd_ne (ne_of_none e nC), upd_ne (fun z => n ps (Option.some.inj (e.symm.trans (by rw [z]; exact hP))))]
      exact e
    have eL : (ps ++ #[rawInt pos.line, rawInt pos.col, .ref c']).toList = ps.toList ++ [rawInt pos.line, rawInt pos.col, .ref c'] := by simp
    have T1 : Tabs T (upd (upd H P (.tbl (ps ++ #[rawInt pos.line, rawInt pos.col, .ref c']))) c' (CodeO c' (X.env.qual ++ "<lambda>"))) := fun p hp => by
      by_cases hb : p.1 = P
      · rw [hu p hp hb, hb]
        refine ⟨_, by rw [upd_ne (ne_of_none hP nC), upd_same], by rw [eL]; exact PySem.TriplesOk_snoc _ _ _ _ ht, fun p' cv hcv => ?_⟩
        rw [eL] at hcv
        rcases among_app _ ht hcv with z | z
        · obtain ⟨c0, e1, e2⟩ := ha p' cv z
          exact ⟨c0, e1, hE _ _ e2 codeO_ne⟩
        · exact ⟨c', z, upd_same⟩
      · obtain ⟨ps', a1, a2, a3⟩ := hT p hp
        refine ⟨ps', by rw [upd_ne (ne_of_none a1 nC), upd_ne hb]; exact a1, a2, fun p' cv hcv => ?_⟩
        obtain ⟨c0, e1, e2⟩ := a3 p' cv hcv
        exact ⟨c0, e1, hE _ _ e2 codeO_ne⟩
    have nF := I1.hok.fresh (Nat.le_refl _)
    have I2 := inv_lam (F := ⟨"<lambda>", X.env.qual ++ "<lambda>", params, [], scope, cloFrom X.env.cells scope.names [], c'⟩) (e := body) (t' := tk) (pm := (X.mg "__name__").getD .none) (ctv := ctv) I1 rfl
    refine h h'.objs.size c' _ _ I2 (fun b o e n => ?_) (fun b e => upd_none (upd_none (upd_none e))) (T1.ext fun b o e => ?_) (I.hok.fresh (Nat.le_trans hge (Nat.le_of_lt hlt))) upd_same ?_
    · have e1 := hE b o e n
      exact (upd_ne (ne_of_none e1 nF)).trans e1
    · exact (upd_ne (ne_of_none e nF)).trans e
    · exact (upd_ne (Nat.ne_of_lt hlt)).trans upd_same
  | some cv =>
    obtain ⟨c', e, hco⟩ := ha pos cv hc
    subst e
    refine PySem.W.kla_makeFunctionHit (mg := X.mg) (c := c) (P := P) (ps := ps) (closure_ok hfree) I.ok.glob (I.mod.glob.keeps I.bk) hcode (TB.code.keeps I.bk) hP' ht hc bP fun ctv h' tk hx hsz => ?_
    have I1 : Inv X pins σ H { s with heap := h', toks := tk } := I.kept hx
    have nF : H h'.objs.size = none := I1.hok.fresh (Nat.le_refl _)
    have I2 := inv_lam (F := ⟨"<lambda>", X.env.qual ++ "<lambda>", params, [], scope, cloFrom X.env.cells scope.names [], c'⟩) (e := body) (t' := tk) (pm := (X.mg "__name__").getD .none) (ctv := ctv) I1 rfl
    refine h h'.objs.size c' _ _ I2 (fun b o e n => ?_) (fun b e => upd_none e) (hT.ext fun b o e => ?_) nF upd_same ?_
    · exact (upd_ne (ne_of_none e nF)).trans e
    · exact (upd_ne (ne_of_none e nF)).trans e
    · exact (upd_ne (ne_of_none hco nF)).trans hco
end
/-- it is called -/
theorem lam_call {P : Program} {w : World} {K : PySem.W.Frag} {mg : Str → Option Value} {base : Heap} {F : NF} {e : Expr} {N ps fr : List Str} {f : Addr} {k : Nat} (S : NScope N ps fr F.scope)
    (hb : ∀ (pm ctv : Value) (us : List Value), us.length = ps.length → bindArgs (PySem.W.kla_fn F.name F.qual F.params e F.scope F.cl pm (.ref F.c) ctv) ⟨us, []⟩ = pure (ps.zip us))
    {A : Around} {outer : List Env} {s : Shared} {H : Hp} {us : List Value} {vs : List V} {ws : List (Option V)} {Q : VK} {tb : TE} (hr : Room (k + 1) A) (e0 : Env0 P w K mg base A outer s H) (hf : H f = some (LamO f F e)) (hc : H F.c = some (CodeO F.c F.qual))
    (C : CellsAt F.cl fr ws s.heap H) (r : Vals vs us) (hl : vs.length = ps.length) (hbody : Room k (A.deeper (envF F f s.heap.objs.size)) → PE (ncx CX0 P w K mg base N F f A outer s H E0) e tb) (hq : tb (startF N vs ws) H Q) :
    codeAny (model P w) A (.call (.ref f) ⟨us, []⟩) (CR CX0 outer P w H s Q E0) s := by
  have lim : s.heap.NoLimit := e0.mod.nolimit.keeps fun b o e => (e0.bs b o e).1
  obtain ⟨od, sl, pm, ctv, ho⟩ := lamO_at e0.hok hf
  refine PySem.W.kla_callFunE hr.depth ho rfl S.co S.gen rfl (codeO_at e0.hok hc) ?_
  rw [hb pm ctv us (by rw [← r.length]; exact hl)]
  refine wpAny_pure (wpAny_newFunctionEnv S.nocell (fun ⟨n, _⟩ hy => S.par n (List.of_mem_zip hy).1) (fun h₁ hns hsb => ⟨lim.fresh _ hsb, ?_⟩) S.kind)
  show codeAny _ _ (.expr e (envF F f s.heap.objs.size)) _ _
  have kp : ∀ b o, s.heap.get? b = some o → h₁.get? b = some o := fun b o e => hsb.extBut b o (Nat.ne_of_lt (Heap.lt_size e)) (Heap.get?_push_of_some _ e)
  have I : Inv (ncx CX0 P w K mg base N F f A outer s H E0) [] (startF N vs ws) H { s with heap := h₁, toks := s.toks + (ps.zip us).length } := inv_startN S hr.hd e0 hl r C hns kp
  refine PySem.W.kla_codeExpr (wpAny_mono ((hbody (hr.deeper _)).run [] _ (startF N vs ws) H Q I hq) (fun v s' q => ?_) fun e' s' q => q)
  obtain ⟨y, H', J, rv, q⟩ := q
  exact ⟨y, H', J.os, J.bare, J.base, J.hok, rv, q⟩
/-- min(e, key=lambda ..: body, default=None) -/
def tMinLam (K : PySem.W.Frag) (T : List (Addr × Str)) (ta : TA) (tb : TE) (N : List Str) (js : List Nat) : TE := fun σ H Q => ta σ H fun vs H1 => ∃ (l : Addr) (xs : List V), vs = [.ref l] ∧ SqL K H1 l xs ∧ Tabs T H1 ∧
  ∀ H2, ExtN H1 H2 → (∀ b, H2 b = Option.none → H1 b = Option.none) → Tabs T H2 → SqL K H2 l xs ∧ ∃ kf : Nat → Int, (∀ (i : Nat) (x : V), xs[i]? = some x → tb (startF N [x] (js.map (slotAt σ))) H2 (fun y H' => y = .int (kf i) ∧ H' = H2)) ∧
    (xs = [] → Q .non H2) ∧ ∀ (i : Nat) (x : V), xs[i]? = some x → Q x H2
theorem pe_minLam {X : Cx} {T : List (Addr × Str)} {c P : Addr} {params : Arguments} {body e : Expr} {scope : Scope} {p lpos pos dp kp kp2 : Pos} {j : Nat} {ta : TA} {tb : TE} {N fr : List Str} {js : List Nat} {k : Nat} {x : Str} (hg : Gl X "min") (hm : X.mg "min" = none) (ha : PA X [e] ta)
    (TB : TabB X.base X.mg c P) (hcode : X.env.code = .ref c) (hmT : (P, X.env.qual ++ "<lambda>") ∈ T) (hu : ∀ p ∈ T, p.1 = P → p.2 = X.env.qual ++ "<lambda>") (hdef : defaultsOf params X.env = ([], []))
    (hfree : ∀ y ∈ scope.names, y.2 = .free → X.env.scope.names.lookup y.1 = some .cell ∨ X.env.scope.names.lookup y.1 = some .free) (hr : Room (k + 2) X.A)
    (S : NScope N [x] fr scope) (hfr : ∀ y ∈ fr, (y, NameKind.free) ∈ scope.names) (hjs : js.map (fun j => X.N[j]?) = fr.map some)
    (hb : ∀ (q : Str) (cl : List (Str × Addr)) (pm cv ctv : Value) (us : List Value), us.length = 1 → bindArgs (PySem.W.kla_fn "<lambda>" q params body scope cl pm cv ctv) ⟨us, []⟩ = pure ([x].zip us))
    (hbody : ∀ (F : NF) (f : Addr) (A : Around) (outer : List Env) (s : Shared) (H : Hp), F.scope = scope → Room k (A.deeper (envF F f s.heap.objs.size)) → PE (ncx CX0 X.prog X.w X.K X.mg X.base N F f A outer s H E0) body tb)
    (hd : X.A.handled = none)
    (he : backTo pos (starEach [e] X.env) = (false, eval e X.env) :: backTo pos (starEach [] X.env) := by rfl) (hpl : (backTo pos (starEach [e] X.env)).any (·.1) = false := by rfl) :
    PE X (.Call (.Name "min" p) [e] [⟨some "key", .Lambda params body scope lpos, kp⟩, ⟨some "default", .Constant .none j dp, kp2⟩] pos) (tMinLam X.K T ta tb N js) := by
  refine ⟨fun pins s σ H Q I h => ?_⟩
  refine wpAny_Call_Name_kw (ld_blt I hg hm boot_min ?_ (by decide) (by decide))
  refine PyProof.Rows.callWith_kw (kws := [⟨some "key", .Lambda params body scope lpos, kp⟩, ⟨some "default", .Constant .none j dp, kp2⟩]) (thn (ha.run pos pins s σ H _ I h) fun us s1 ⟨vs, H1, I1, r1, l, xs, e1, hl, hT, k1⟩ => ?_) he hpl (by rfl) (by rfl)
  subst e1
  obtain rfl := Vals.ref1 r1
  have hfr' : ∀ y ∈ scope.names, y.2 = .free → ∃ c, X.env.cells.lookup y.1 = some c := fun y hy e => (hfree y hy e).elim (fun z => I.ok.has _ (.inl z)) fun z => I.ok.has _ (.inr z)
  show wpAny _ _ (evalAll [(do let v ← eval (.Lambda params body scope lpos) X.env; standAt pos; pure v), (do let v ← eval (.Constant .none j dp) X.env; standAt pos; pure v)]) _ _ s1
  refine wpAny_evalAll_cons (wpAny_bind (lam_makeT I1 TB hcode hmT hu hT hdef hfr' fun f c' H2 s2 I2 eN nn T2 f0 f1 c1 => wpAny_bind (wpAny_standAt (wpAny_pure ?_))))
  refine wpAny_evalAll_cons (wpAny_bind (Constant_none (wpAny_bind (wpAny_standAt (wpAny_pure ?_)))))
  refine wpAny_evalAll_nil ?_
  show wpAny _ _ (call (.builtin "min") [.ref l] [(Str.ofString "key", .ref f), (Str.ofString "default", .none)]) _ _ _
  obtain ⟨hl2, kf, kc, k0, k2⟩ := k1 H2 eN nn T2
  refine min_run (kf := kf) I2 hd hl2 (fun i y v s' hx rx I' => ?_) k0 k2
  refine wpAny_call (codeAny_mono (lam_call (F := ⟨"<lambda>", X.env.qual ++ "<lambda>", params, [], scope, cloFrom X.env.cells scope.names [], c'⟩) (k := k) S (fun pm ctv us hl => hb _ _ _ _ _ us hl) hr.in1 I'.env0.in1 f1 c1 (cells_of I' (Caps.made I'.ok hfree hfr hjs)) (.cons rx .nil) rfl (fun hr' => hbody _ _ _ _ _ _ rfl hr') (kc i y hx)) fun r s'' hq => ?_)
  cases r with
  | error e => exact (show False from hq).elim
  | ok fl =>
    cases fl with
    | ret u => exact hq
    | next => exact False.elim hq
    | brk => exact False.elim hq
    | cont => exact False.elim hq
end GA
namespace GA
set_option maxRecDepth 100000
set_option maxHeartbeats 4000000
open PySem PySem.Spec PyProof.Rows L2 LamX NdefX
/-! ### free_one -/
theorem fn_okC {P : Program} {w : World} {K : PySem.W.Frag} {mg : Str → Option Value} {base : Heap} {x qual : Str} {params : Arguments} {body : List Stmt} {scope : Scope} {dvs : List V} {kws : List (Str × V)} {f : Addr} {fd : FuncData} {N ps : List Str} {k : Nat} {sp : Sp} (F : FunD K x qual params body scope dvs kws f fd) (S : FnScope N ps scope) (len : ∀ vs H Q E, sp vs H Q E → vs.length = ps.length)
    (hbody : ∀ (cdv : Value) (A : Around) (outer : List Env) (s : Shared) (H : Hp) (vs : List V) (Q : VK) (E : XK), fd.code = cdv → Room k (A.deeper (envOfC qual scope s.heap.objs.size f cdv)) → sp vs H Q E →
      ∃ t, PSs (cxOf CX0 P w K mg base N qual scope f cdv A outer s H E).nox body t ∧ t { nx := fun _ H' => Q .non H', rt := Q } (start N vs) H) : FnOk P w K mg base CX0 (k + 1) f fd ps sp := by
  obtain ⟨oc, od, dV, kV, doc, pm, an, cdv, ct, osl, rfl, lk, hcd, _, _⟩ := F.ex
  exact fn_of lk hcd S len fun A outer s H vs Q E hr hsp =>
    let ⟨t, h, q⟩ := hbody cdv A outer s H vs Q E rfl hr hsp
    ⟨t, h.nox, q⟩
def LQ : Str := ("Shares.free_one" : Str) ++ ".<locals>." ++ "<lambda>"
abbrev TL (Pt : Addr) : List (Addr × Str) := [(Pt, LQ)]
def keyU (es : List Ent) (z : Str) : Int := match es with
  | [] => 0
  | e :: r => if e.1 = z then e.2.2.u else keyU r z
theorem keyU_at : ∀ {es : List Ent} {i : Nat} {e : Ent}, (es.map (·.1)).Nodup → es[i]? = some e → keyU es e.1 = e.2.2.u
  | [], i, e, _, h => by simp at h
  | a :: r, 0, e, _, h => by
    have q : a = e := Option.some.inj h
    subst q
    exact if_pos rfl
  | a :: r, i + 1, e, nd, h => by
    have h' : r[i]? = some e := h
    rw [List.map_cons, List.nodup_cons] at nd
    have h1 : ¬ a.1 = e.1 := fun z => nd.1 (by rw [z]; exact ix_mem h')
    show (if a.1 = e.1 then a.2.2.u else keyU r e.1) = _
    rw [if_neg h1]
    exact keyU_at nd.2 h'
def FCond (ns : List Str) (es : List Ent) : Option Str → Prop
  | none => ∀ (i : Nat) (e : Ent), es[i]? = some e → e.1 ∈ ns → ¬ e.2.2.u < e.2.2.nc
  | some n => ∃ (i : Nat) (e : Ent), es[i]? = some e ∧ e.1 = n ∧ n ∈ ns ∧ e.2.2.u < e.2.2.nc
def spFreeOne (CP CS Pt : Addr) : Sp := fun vs H Q _ => ∃ (R : Addr → Prop) (s : SS) (r : Addr) (ns : List Str), vs = [.ref s.p, .ref r] ∧ Sh CP CS R H s ∧ H r = some (.lst (ns.map V.str)) ∧ Tabs (TL Pt) H ∧ s.es.length ≤ 100 ∧
  ∀ (b : Option Str) (H' : Hp), ExtN H H' → (∀ b, H' b = Option.none → H b = Option.none) → Tabs (TL Pt) H' → FCond ns s.es b → Q (ov b) H'
section
variable {P : Program} {w : World} {K : PySem.W.Frag} {mg : Str → Option Value} {base : Heap} {CP CS : Addr}
theorem scFO : FnScope ["self", "ready", "below", "name"] ["self", "ready"] (defScope sFreeOne) := ⟨rfl, rfl, rfl, by decide +kernel, rfl, by decide +kernel, by decide +kernel⟩
theorem ok_freeone {f c Pt : Addr} {fd : FuncData} (T : Txt K mg CP CS) (F : FnP K "free_one" "Shares.free_one" sFreeOne f fd) (hcode : fd.code = .ref c) (TB : TabB base mg c Pt) : FnOk P w K mg base CX0 3 f fd ["self", "ready"] (spFreeOne CP CS Pt) := by
  refine fn_okC F scFO (fun vs H Q E h => ?_) (fun cdv A outer s0 H vs Q E hcv hr h => ?_)
  · obtain ⟨R, s, r, ns, rfl, _⟩ := h
    rfl
  · obtain ⟨R, s, r, ns, rfl, S, hR, hT, hlen, k⟩ := h
    have hu := hu_of hr
    have hcv' : cdv = .ref c := hcv.symm.trans hcode
    subst hcv'
    refine ⟨_, pss_cons (ps_lock (ps_setLc (i := 2) (own := [("name", 3)]) (g := gName 3) (tt := tTest (tOp (rIn K false) (tVar 3) (tVar 1))) (te := tVar 3) rfl scFO.nd rfl rfl (sw_true rfl rfl rfl (by decide +kernel)) (pi_keys (pe_fld (pv 0) rfl)) (blkOk_by (N := ["self", "ready", "below", "name"]) (sc := defScope sFreeOne) (by decide +kernel))
        (fun _ _ _ _ _ => pg_name (i := 3) scFO.nd rfl (Or.inl rfl)) (fun _ _ _ _ _ => pts_one (pt_cmpR op_in_seq (pv 3) (pv 1) (by rfl))) (fun _ _ _ _ _ => pv 3)))
      (pss_cons (ps_setLc (i := 2) (own := [("name", 3)]) (g := gName 3) (tt := tTest (tOp (rI0 fun i j => V.bl (decide (i < j))) (tFld K (tDGet (tFld K (tVar 0) "portions") (tVar 3)) "turns_used") (tFld K (tDGet (tFld K (tVar 0) "portions") (tVar 3)) "now_ceiling"))) (te := tVar 3) rfl scFO.nd rfl rfl (sw_true rfl rfl rfl (by decide +kernel)) (pi_list (pv 2)) (blkOk_by (N := ["self", "ready", "below", "name"]) (sc := defScope sFreeOne) (by decide +kernel))
        (fun _ _ _ _ _ => pg_name (i := 3) scFO.nd rfl (Or.inl rfl)) (fun _ _ _ _ _ => pts_one (pt_cmpR op_lt (pe_fld (pe_dget hu (pe_fld (pv 0) rfl) (pv 3) (fun _ _ => rfl)) rfl) (pe_fld (pe_dget hu (pe_fld (pv 0) rfl) (pv 3) (fun _ _ => rfl)) rfl) (nomark _))) (fun _ _ _ _ _ => pv 3))
      (pss_one (ps_ret (pe_minLam (T := TL Pt) (c := c) (P := Pt) (N := ["name", "self"]) (fr := ["self"]) (js := [0]) (k := 0) (x := "name") (tb := tFld K (tDGet (tFld K (tVar 1) "portions") (tVar 0)) "turns_used") (by rfl) T.min (pa_cons (pv 2) pa_nil) TB rfl (List.mem_singleton.mpr rfl)
        (fun p hp _ => by rw [List.mem_singleton.mp hp] <;> rfl) rfl (ndef_free (sc := defScope sFreeOne) (fr := ["self"]) (by decide +kernel)) hr (nscope_by (by decide +kernel)) (ndef_fr (sc := defScope sFreeOne) (by decide +kernel)) rfl (fun _ _ _ _ _ us hl => match us, hl with | [_], _ => rfl)
        (fun F f A outer s H hsc hr' => by
          obtain ⟨_, _, _, _, sc, _, _⟩ := F
          cases hsc
          exact pe_fld (pe_dget (hu_of hr') (pe_fld (pv 1) rfl) (pv 0) (fun _ _ => rfl)) rfl) hr.hd)))), ?_⟩
    refine ⟨s.d, .dK (kvsOf s.es), S.dc, True.intro, fun od => ?_⟩
    have S1 := S.lock od
    have nrd : r ≠ s.d := ne_of hR S.dc (by intro z; cases z)
    have hR1 : upd H s.d (.frz od (.dK (kvsOf s.es))) r = some (.lst (ns.map V.str)) := by rw [upd_ne nrd]; exact hR
    refine ⟨_, rfl, s.p, CS, s.dx, _, _, rfl, S1.ob, T.clS, T.nPo, sf_po _ _ _ _, s.d, od, rfl, .inl ⟨kvsOf s.es, S1.dc, fun D hD => ?_⟩⟩
    refine lc_it walk_keys (fun i H' => Same (upd H s.d (.frz od (.dK (kvsOf s.es)))) H' ∧ (upd H s.d (.frz od (.dK (kvsOf s.es)))) D = none ∧ ∃ ys : List Str, H' D = some (.lst (ys.map V.str)) ∧ ys.length ≤ i ∧
        (∀ y ∈ ys, y ∈ ns ∧ y ∈ namesOf s.es) ∧ ∀ (j : Nat) (e : Ent), j < i → s.es[j]? = some e → e.1 ∈ ns → e.1 ∈ ys) ⟨same_new hD, hD, [], upd_same, Nat.le_refl _, (fun y hy => by cases hy), fun j e hj => absurd hj (Nat.not_lt_zero _)⟩ (fun i H' _ h => h.1 _ _ S1.dc) ?_ ?_
    · rintro i x H1 H2 hi ⟨s1, d0, ys, d1, hl1, hy1, hy2⟩ ⟨rfl, kk, vv, hk, rfl⟩
      rw [kvs_len] at hi
      obtain ⟨e, he⟩ : ∃ e, s.es[i]? = some e := ⟨s.es[i], List.getElem?_eq_getElem hi⟩
      rw [kvs_get he] at hk
      cases hk
      refine ⟨rfl, _, rfl, _, rfl, r, ns.map V.str, rfl, .inl (SqL.of (s1 _ _ hR1)), rfl, flat_str ns, _, rfl, ?_⟩
      have e1 : (if false = true then !inV (.str e.1) (ns.map V.str) else inV (.str e.1) (ns.map V.str)) = decide (e.1 ∈ ns) := inV_str e.1 ns
      show (if (if false = true then !inV (.str e.1) (ns.map V.str) else inV (.str e.1) (ns.map V.str)) = true then _ else _)
      rw [e1]
      refine ite2 (fun hm => ?_) (fun hm => ?_)
      · have hm' : e.1 ∈ ns := of_decide_eq_true hm
        refine ⟨_, rfl, _, d1, ?_, ?_, d0, ys ++ [e.1], ?_, ?_, ?_, ?_⟩
        · rw [List.length_map]
          exact small1000 (by omega)
        · intro a o q
          rw [upd_ne (ne_of_none q d0)]
          exact s1 a o q
        · rw [upd_same, List.map_append] <;> rfl
        · rw [List.length_append, List.length_singleton]
          omega
        · intro y hy
          rcases List.mem_append.mp hy with hy | hy
          · exact hy1 y hy
          · rw [List.mem_singleton.mp hy]
            exact ⟨hm', ix_mem he⟩
        · intro j e' hj he' hn
          by_cases c2 : j = i
          · subst c2
            rw [he] at he'
            cases he'
            exact List.mem_append_right _ (List.mem_singleton.mpr rfl)
          · exact List.mem_append_left _ (hy2 j e' (by omega) he' hn)
      · refine ⟨s1, d0, ys, d1, by omega, hy1, fun j e' hj he' hn => ?_⟩
        by_cases c2 : j = i
        · subst c2
          rw [he] at he'
          cases he'
          exact absurd (decide_eq_true hn) hm
        · exact hy2 j e' (by omega) he' hn
    · rintro H1 ⟨s1, d0, ys, d1, hl1, hy1, hy2⟩
      rw [kvs_len] at hl1 hy2
      refine ⟨s1 _ _ S1.dc, ?_⟩
      have nD : D ≠ s.d := fun z => by
        rw [z, S1.dc] at d0
        cases d0
      have sA : Same H (upd H1 s.d (.dK (kvsOf s.es))) := lock_same S.dc s1
      have SA := S.same sA
      have dA : upd H1 s.d (.dK (kvsOf s.es)) D = some (.lst (ys.map V.str)) := by rw [upd_ne nD]; exact d1
      generalize upd H1 s.d (.dK (kvsOf s.es)) = HA at sA SA dA
      -- the second list
      refine ⟨_, rfl, D, rfl, ⟨_, SqL.of dA⟩, fun D2 hD2 => ?_⟩
      refine lc_list (K := K) (a := D) (xs := ys.map V.str) (fun i H' => Same HA H' ∧ HA D2 = none ∧ ∃ zs : List Str, H' D2 = some (.lst (zs.map V.str)) ∧ zs.length ≤ i ∧
        (∀ z ∈ zs, ∃ (j : Nat) (e : Ent), s.es[j]? = some e ∧ e.1 = z ∧ z ∈ ns ∧ e.2.2.u < e.2.2.nc) ∧ ∀ (j : Nat) (y : Str), j < i → ys[j]? = some y → ∀ (m : Nat) (e : Ent), s.es[m]? = some e → e.1 = y → e.2.2.u < e.2.2.nc → y ∈ zs)
        ⟨same_new hD2, hD2, [], upd_same, Nat.le_refl _, (fun y hy => by cases hy), fun j e hj => absurd hj (Nat.not_lt_zero _)⟩ (fun i H' _ h => SqL.of (h.1 _ _ dA)) ?_ ?_
      · rintro i x H2 hx ⟨s2, d0', zs, d2, hl2, hz1, hz2⟩
        obtain ⟨y, hy, rfl⟩ : ∃ y, ys[i]? = some y ∧ x = V.str y := by
          rw [List.getElem?_map] at hx
          cases e : ys[i]? with
          | none =>
            rw [e] at hx
            cases hx
          | some y =>
            rw [e] at hx
            exact ⟨y, rfl, (Option.some.inj hx).symm⟩
        have hiy : i < ys.length := (List.getElem?_eq_some_iff.mp hy).1
        obtain ⟨hyn, hyes⟩ := hy1 y (List.mem_of_getElem? hy)
        obtain ⟨m, e, he, rfl⟩ := name_ix hyes
        have S2 := SA.same s2
        obtain ⟨dxe, hpo⟩ := S2.po m e he
        refine ⟨rfl, _, rfl, s.p, CS, s.dx, _, _, rfl, S2.ob, T.clS, T.nPo, sf_po _ _ _ _, _, rfl, s.d, _, rfl, S2.get he, e.2.1, CP, dxe, _, _, rfl, hpo, T.clP, T.nTU, pf_u _,
          _, rfl, s.p, CS, s.dx, _, _, rfl, S2.ob, T.clS, T.nPo, sf_po _ _ _ _, _, rfl, s.d, _, rfl, S2.get he, e.2.1, CP, dxe, _, _, rfl, hpo, T.clP, T.nNC, pf_nc _, _, _, rfl, rfl, _, rfl, ?_⟩
        refine ite2 (fun hm => ?_) (fun hm => ?_)
        · have hm' : e.2.2.u < e.2.2.nc := of_decide_eq_true hm
          refine ⟨_, rfl, _, d2, ?_, ?_, d0', zs ++ [e.1], ?_, ?_, ?_, ?_⟩
          · rw [List.length_map]
            exact small1000 (by omega)
          · intro a o q
            rw [upd_ne (ne_of_none q d0')]
            exact s2 a o q
          · rw [upd_same, List.map_append] <;> rfl
          · rw [List.length_append, List.length_singleton]
            omega
          · intro z hz
            rcases List.mem_append.mp hz with hz | hz
            · exact hz1 z hz
            · rw [List.mem_singleton.mp hz]
              exact ⟨m, e, he, rfl, hyn, hm'⟩
          · intro j y' hj hy' m' e' he' hn hlt
            by_cases c2 : j = i
            · subst c2
              rw [hy] at hy'
              cases hy'
              exact List.mem_append_right _ (List.mem_singleton.mpr rfl)
            · exact List.mem_append_left _ (hz2 j y' (by omega) hy' m' e' he' hn hlt)
        · refine ⟨s2, d0', zs, d2, by omega, hz1, fun j y' hj hy' m' e' he' hn hlt => ?_⟩
          by_cases c2 : j = i
          · subst c2
            rw [hy] at hy'
            cases hy'
            have em := ix_name S.nd he' he hn
            subst em
            rw [he] at he'
            cases he'
            exact absurd (decide_eq_true hlt) hm
          · exact hz2 j y' (by omega) hy' m' e' he' hn hlt
      · rintro H2 ⟨s2, d0', zs, d2, hl2, hz1, hz2⟩
        rw [List.length_map] at hl2 hz2
        have sB : Same H H2 := sA.trans s2
        refine ⟨_, rfl, D2, zs.map V.str, rfl, SqL.of d2, hT.ext sB, fun H3 eN nn T3 => ?_⟩
        have d3 : H3 D2 = some (.lst (zs.map V.str)) := eN _ _ d2 (by intro ps z; cases z)
        have S3 : Sh CP CS R H3 s := (S.same sB).keep fun a o hra q => eN a o q fun ps z => by
          obtain ⟨o', q1, q2⟩ := (S.same sB).dom a hra
          rw [q] at q1
          cases q1
          rw [z] at q2
          exact q2
        have eN' : ExtN H H3 := fun a o q n => eN a o (sB a o q) n
        have nn' : ∀ b, H3 b = Option.none → H b = Option.none := fun b q => sB.free (nn b q)
        refine ⟨SqL.of d3, fun i => keyU s.es (zs.getD i LQ), fun i x hx => ?_, fun hnil => ?_, fun i x hx => ?_⟩
        · obtain ⟨z, hz, rfl⟩ : ∃ z, zs[i]? = some z ∧ x = V.str z := by
            rw [List.getElem?_map] at hx
            cases e : zs[i]? with
            | none =>
              rw [e] at hx
              cases hx
            | some y =>
              rw [e] at hx
              exact ⟨y, rfl, (Option.some.inj hx).symm⟩
          obtain ⟨m, e, he, rfl, _, _⟩ := hz1 z (List.mem_of_getElem? hz)
          obtain ⟨dxe, hpo⟩ := S3.po m e he
          refine ⟨_, rfl, s.p, CS, s.dx, _, _, rfl, S3.ob, T.clS, T.nPo, sf_po _ _ _ _, _, rfl, s.d, _, rfl, S3.get he, e.2.1, CP, dxe, _, _, rfl, hpo, T.clP, T.nTU, pf_u _, ?_, rfl⟩
          have eg : zs.getD i LQ = e.1 := by rw [List.getD_eq_getElem?_getD, hz] <;> rfl
          show V.int e.2.2.u = V.int (keyU s.es (zs.getD i LQ))
          rw [eg, keyU_at S.nd he]
        · have zn : zs = [] := List.map_eq_nil_iff.mp hnil
          subst zn
          refine k none _ eN' nn' T3 fun i e he hn hlt => ?_
          have hm := hy2 i e (List.getElem?_eq_some_iff.mp he).1 he hn
          obtain ⟨j, hj, q⟩ := List.mem_iff_getElem.mp hm
          have := hz2 j e.1 hj (by rw [List.getElem?_eq_getElem hj, q]) i e he rfl hlt
          cases this
        · obtain ⟨z, hz, rfl⟩ : ∃ z, zs[i]? = some z ∧ x = V.str z := by
            rw [List.getElem?_map] at hx
            cases e : zs[i]? with
            | none =>
              rw [e] at hx
              cases hx
            | some y =>
              rw [e] at hx
              exact ⟨y, rfl, (Option.some.inj hx).symm⟩
          exact k (some z) _ eN' nn' T3 (hz1 z (List.mem_of_getElem? hz))
end
end GA
namespace GA
set_option maxRecDepth 100000
set_option maxHeartbeats 4000000
open PySem PySem.Spec PyProof.Rows L2 LamX
/-! ### deal -/
def begE (e : Ent) : Ent := (e.1, e.2.1, beg e.2.2)
def begN : Nat → List Ent → List Ent
  | 0, es => es
  | _ + 1, [] => []
  | i + 1, e :: r => begE e :: begN i r
theorem begN_get : ∀ {es : List Ent} {i : Nat}, (begN i es)[i]? = es[i]?
  | es, 0 => rfl
  | [], i + 1 => rfl
  | e :: r, i + 1 => by
    show (begN i r)[i]? = r[i]?
    exact begN_get
theorem begN_set : ∀ {es : List Ent} {i : Nat} {e : Ent}, es[i]? = some e → (begN i es).set i (begE e) = begN (i + 1) es
  | [], i, e, h => by simp at h
  | a :: r, 0, e, h => by
    have q : a = e := Option.some.inj h
    subst q
    show (a :: r).set 0 (begE a) = begE a :: begN 0 r
    rfl
  | a :: r, i + 1, e, h => by
    show begE a :: (begN i r).set i (begE e) = begE a :: begN (i + 1) r
    rw [begN_set (show r[i]? = some e from h)]
theorem begN_full : ∀ {es : List Ent}, begN es.length es = es.map begE
  | [] => rfl
  | a :: r => by
    show begE a :: begN r.length r = begE a :: r.map begE
    rw [begN_full]
theorem begN_kvs : ∀ {es : List Ent} {i : Nat}, kvsOf (begN i es) = kvsOf es
  | es, 0 => rfl
  | [], i + 1 => rfl
  | a :: r, i + 1 => by
    show (Sum.inr a.1, V.ref a.2.1) :: kvsOf (begN i r) = (Sum.inr a.1, V.ref a.2.1) :: kvsOf r
    rw [begN_kvs]
def Pick (ns : List Str) (es : List Ent) : Option Str → Prop
  | none => ∀ (j : Nat) (e : Ent), es[j]? = some e → e.1 ∈ ns → ¬ e.2.2.u < e.2.2.np ∧ ¬ e.2.2.u < e.2.2.nc
  | some n => ∃ (i : Nat) (e : Ent), es[i]? = some e ∧ e.1 = n ∧ n ∈ ns ∧ (e.2.2.u < e.2.2.np ∨ (e.2.2.u < e.2.2.nc ∧ ∀ (j : Nat) (e' : Ent), es[j]? = some e' → e'.1 ∈ ns → ¬ e'.2.2.u < e'.2.2.np))
def Inc : Option Str → List Ent → List Ent → Prop
  | none, es, es1 => es1 = es
  | some n, es, es1 => ∃ (i : Nat) (e : Ent), es[i]? = some e ∧ e.1 = n ∧ es1 = es.set i (e.1, e.2.1, { e.2.2 with u := e.2.2.u + 1 })
def aft (s : SS) (es1 : List Ent) (b : Option Str) : SS :=
  if s.t + 1 = s.L then { s with t := 0, es := es1.map begE, dl := s.dl ++ [ov b] } else { s with t := s.t + 1, es := es1, dl := s.dl ++ [ov b] }
/-- all outside R, but tables, is as it was -/
def FrT (R : Addr → Prop) (H H' : Hp) : Prop := ∀ a o, H a = some o → ¬ R a → (∀ ps, o ≠ .tbl ps) → H' a = some o
theorem FrT.refl {R : Addr → Prop} {H : Hp} : FrT R H H := fun _ _ h _ _ => h
theorem FrT.trans {R : Addr → Prop} {H H1 H2 : Hp} (f : FrT R H H1) (g : FrT R H1 H2) : FrT R H H2 := fun a o h n t => g a o (f a o h n t) n t
theorem FrT.same {R : Addr → Prop} {H H1 : Hp} (s : Same H H1) : FrT R H H1 := fun a o h _ _ => s a o h
theorem FrT.ext {R : Addr → Prop} {H H1 : Hp} (s : ExtN H H1) : FrT R H H1 := fun a o h _ t => s a o h t
theorem FrT.wr {R : Addr → Prop} {H : Hp} {a : Addr} {o : HO} (h : R a) : FrT R H (upd H a o) := fun b u e n _ => by
  rw [upd_ne (show b ≠ a from fun z => n (by rw [z]; exact h))]
  exact e
theorem FrT.but {R : Addr → Prop} {H H1 : Hp} {a : Addr} (b : But a H H1) (h : R a) : FrT R H H1 := fun c u e n _ => b c u e fun z => n (by rw [z]; exact h)
theorem plain_tbl {o : HO} (h : plainO o) : ∀ ps, o ≠ .tbl ps := fun ps z => by
  rw [z] at h
  exact h
/-- the table is kept by a change of plain objects -/
theorem tabs_keep {T : List (Addr × Str)} {H H' : Hp} (t : Tabs T H) (k : ∀ a o, H a = some o → ¬ plainO o → H' a = some o) : Tabs T H' := fun p hp => by
  obtain ⟨ps, h1, h2, h3⟩ := t p hp
  refine ⟨ps, k _ _ h1 (fun z => z), h2, fun pos cv hc => ?_⟩
  obtain ⟨c, e1, e2⟩ := h3 pos cv hc
  exact ⟨c, e1, k _ _ e2 (fun z => by unfold CodeO at z; exact z)⟩
theorem tabs_upd {T : List (Addr × Str)} {H : Hp} {a : Addr} {o : HO} (t : Tabs T H) (h : ∀ u, H a = some u → plainO u) : Tabs T (upd H a o) := tabs_keep t fun b u e n => by
  rw [upd_ne (show b ≠ a from fun z => n (h u (by rw [← z]; exact e)))]
  exact e
theorem tabs_but {T : List (Addr × Str)} {H H' : Hp} {a : Addr} {o : HO} (t : Tabs T H) (b : But a H H') (ha : H a = some o) (hp : plainO o) : Tabs T H' := tabs_keep t fun c u e n => b c u e fun z => by
  rw [z, ha] at e
  cases e
  exact n hp
def spDeal (CP CS Pt : Addr) : Sp := fun vs H Q _ => ∃ (R : Addr → Prop) (s : SS) (r : Addr) (ns : List Str), vs = [.ref s.p, .ref r] ∧ Sh CP CS R H s ∧ H r = some (.lst (ns.map V.str)) ∧ Tabs (TL Pt) H ∧ s.es.length ≤ 100 ∧ s.dl.length ≤ 10000 ∧ Bnd s.es ∧ (∀ n ∈ ns, n ∈ namesOf s.es) ∧
  ∀ (b : Option Str) (es1 : List Ent) (H' : Hp), Pick ns s.es b → Inc b s.es es1 → Sh CP CS R H' (aft s es1 b) → FrT R H H' → Tabs (TL Pt) H' → Q (ov b) H'
section
variable {CP CS : Addr} {fz : Option Obj} {R : Addr → Prop} {H H' : Hp} {p dx d l : Addr} {L t : Int} {es : List Ent} {dl : List V}
/-- turns_passed is stored -/
theorem ShAt.setT (S : ShAt CP CS fz R H p dx d l L t es dl) (z : Int) : ShAt CP CS fz R (upd H p (.ins CS dx (sf L d z l))) p dx d l L z es dl where
  ob := upd_same
  dc := by rw [upd_ne S.pd.symm]; exact S.dc
  al := by rw [upd_ne S.pl.symm]; exact S.al
  po := fun i e h => let ⟨x, q⟩ := S.po i e h; ⟨x, by rw [upd_ne (S.np i e h)]; exact q⟩
  nd := S.nd
  na := S.na
  np := S.np
  rp := S.rp
  rd := S.rd
  rl := S.rl
  re := S.re
  dom := fun a h => by
    by_cases e : a = p
    · exact ⟨.ins CS dx (sf L d z l), by rw [e]; exact upd_same, True.intro⟩
    · obtain ⟨o, q, y⟩ := S.dom a h
      exact ⟨o, by rw [upd_ne e]; exact q, y⟩
/-- a turn is written down -/
theorem ShAt.setD (S : ShAt CP CS fz R H p dx d l L t es dl) (dl' : List V) : ShAt CP CS fz R (upd H l (.lst dl')) p dx d l L t es dl' where
  ob := by rw [upd_ne S.pl]; exact S.ob
  dc := by rw [upd_ne S.dl_]; exact S.dc
  al := upd_same
  po := fun i e h => let ⟨x, q⟩ := S.po i e h; ⟨x, by rw [upd_ne (S.el h)]; exact q⟩
  nd := S.nd
  na := S.na
  np := S.np
  rp := S.rp
  rd := S.rd
  rl := S.rl
  re := S.re
  dom := fun a h => by
    by_cases e : a = l
    · exact ⟨.lst dl', by rw [e]; exact upd_same, True.intro⟩
    · obtain ⟨o, q, y⟩ := S.dom a h
      exact ⟨o, by rw [upd_ne e]; exact q, y⟩
theorem ShAt.plain (S : ShAt CP CS fz R H p dx d l L t es dl) {a : Addr} (h : R a) : ∀ u, H a = some u → plainO u := fun u e => by
  obtain ⟨o, q, y⟩ := S.dom a h
  rw [e] at q
  cases q
  exact y
end
section
variable {P : Program} {w : World} {K : PySem.W.Frag} {mg : Str → Option Value} {base : Heap} {CP CS : Addr}
theorem scDeal : FnScope ["self", "ready", "name", "portion"] ["self", "ready"] (defScope sDeal) := ⟨rfl, rfl, rfl, by decide +kernel, rfl, by decide +kernel, by decide +kernel⟩
theorem ok_deal {f Pt : Addr} {fd : FuncData} (T : Txt K mg CP CS) (GN : MFn P w K mg base 1 CS "need_guest" ["self", "name"] (spNeedGuest CP CS)) (GP : MFn P w K mg base 1 CS "promised_one" ["self", "ready"] (spPromisedOne CP CS))
    (GF : MFn P w K mg base 3 CS "free_one" ["self", "ready"] (spFreeOne CP CS Pt)) (GB : MFn P w K mg base 1 CP "begin" ["self"] (spPBegin CP)) (F : FnP K "deal" "Shares.deal" sDeal f fd) : FnOk P w K mg base CX0 4 f fd ["self", "ready"] (spDeal CP CS Pt) := by
  refine fn_ok F scDeal (fun vs H Q E h => ?_) (fun cdv A outer s0 H vs Q E hr h => ?_)
  · obtain ⟨R, s, r, ns, rfl, _⟩ := h
    rfl
  · obtain ⟨R, s, r, ns, rfl, S, hR, hT, hlen, hdl, hB, hns, k⟩ := h
    have hu := hu_of hr
    refine ⟨_, pss_cons (ps_if (pt_not (pt_val (pe_callB call_isiT (by rfl) T.isi boot_isinstance (pa_cons (pv 1) (pa_cons (pe_tup (pa_cons (pe_bltn (v := .ty "list") (by rfl) T.tlist boot_list rfl) (pa_cons (pe_bltn (v := .ty "tuple") (by rfl) T.ttuple boot_tuple rfl) pa_nil))) pa_nil))))) (pss_one ps_never) pss_nil)
      (pss_cons (ps_for PassesOwn.never rfl (pi_list (pv 1)) (pg_name (i := 2) scDeal.nd rfl (Or.inl rfl)) (pss_one (ps_expr (mcall GN hr (by decide) (pv 0) T.clS (pa_cons (pv 2) pa_nil)))))
      (pss_cons (ps_set (i := 2) scDeal.nd rfl (Or.inl rfl) (mcall GP hr (by decide) (pv 0) T.clS (pa_cons (pv 1) pa_nil)))
      (C8.pss_cut (ps_if (pt_cmp (pc_isN (pv 2))) (pss_one (ps_set (i := 2) scDeal.nd rfl (Or.inl rfl) (mcall GF hr (by decide) (pv 0) T.clS (pa_cons (pv 1) pa_nil)))) pss_nil)
      (C8.pss_cut (ps_if (pt_cmp (pc_notN (pv 2))) (pss_one (ps_fldaug (pe_dget hu (pe_fld (pv 0) rfl) (pv 2) (fun _ _ => rfl)) pe_int in_add)) pss_nil)
      (pss_cons (ps_expr (pe_bm PySem.F.plainAttrs_list PySem.F.slot_list_append PySem.F.type_list_append mt_append (pe_fld (pv 0) rfl) (pa_cons (pv 2) pa_nil)))
      (pss_cons (ps_fldaug (pv 0) pe_int in_add)
      (C8.pss_cut (ps_if (pt_cmpR op_eq (pe_fld (pv 0) rfl) (pe_fld (pv 0) rfl) (nomark _)) (pss_cons (ps_fld (pv 0) pe_int rfl)
          (pss_one (ps_lock (ps_for PassesOwn.never rfl (pi_values (pe_fld (pv 0) rfl)) (pg_name (i := 3) scDeal.nd rfl (Or.inl rfl)) (pss_one (ps_expr (mcall0 GB hr (by decide) (pv 3) T.clP))))))) pss_nil)
      (pss_one (ps_ret (pv 2)))))))))), ?_⟩
    -- isinstance
    refine ⟨_, rfl, (by show 2 ≤ sizeLine; decide), fun t ht => ?_⟩
    have nrt : r ≠ t := ne_of_none hR ht
    have sA : Same H (upd H t (.tup [.ty "list", .ty "tuple"])) := same_new ht
    refine ⟨_, t, _, .type "list", [.type "list", .type "tuple"], true, rfl, upd_same, .cons (.ty _) (.cons (.ty _) .nil), .base (.lst (sA _ _ hR)), kitAny_cons (b := true) (kit_ty (by decide +kernel)) (fun z => nomatch z) (fun _ => rfl), true, rfl, iteF ?_⟩
    have SA := S.same sA
    have hRA := sA _ _ hR
    have TA := hT.ext sA
    generalize upd H t (.tup [.ty "list", .ty "tuple"]) = HA at sA SA hRA TA
    -- for name in ready: self.need_guest(name)
    refine ⟨_, rfl, r, rfl, ⟨_, SqL.of hRA⟩, for_list (K := K) (a := r) (xs := ns.map V.str) (fun i σ H' => ∃ v : Option V, σ = [some (.ref s.p), some (.ref r), v, none] ∧ H' = HA) ⟨none, rfl, rfl⟩ (fun i σ H' _ ⟨_, _, e⟩ => by rw [e]; exact SqL.of hRA) ?_ ?_⟩
    · rintro i y σ H' hi ⟨v, rfl, rfl⟩
      obtain ⟨n, hn, rfl⟩ : ∃ n, n ∈ ns ∧ y = V.str n := by
        obtain ⟨n, hn, q⟩ := List.mem_map.mp (List.mem_of_getElem? hi)
        exact ⟨n, hn, q.symm⟩
      exact ⟨_, rfl, s.p, s.dx, _, rfl, SA.ob, sf_n1 _ _ _ _, _, rfl, R, s, n, rfl, SA, hns n hn, _, rfl, rfl⟩
    rintro σ H' ⟨v, rfl, rfl⟩
    refine ⟨_, rfl, s.p, s.dx, _, rfl, SA.ob, sf_n6 _ _ _ _, _, rfl, R, s, r, ns, rfl, SA, hRA, hB, fun b1 HB sB hb1 => ?_⟩
    have SB := SA.same sB
    -- the first cut
    refine ⟨fun σ H3 => ∃ b : Option Str, σ = [some (.ref s.p), some (.ref r), some (ov b), none] ∧ ExtN H H3 ∧ Sh CP CS R H3 s ∧ Tabs (TL Pt) H3 ∧ Pick ns s.es b, ?_, ?_⟩
    · have eB : ExtN H HB := fun a o q _ => sB a o (sA a o q)
      cases b1 with
      | some n =>
        refine ⟨_, rfl, false, rfl, iteF ?_⟩
        refine ⟨some n, rfl, eB, SB, TA.ext sB, ?_⟩
        obtain ⟨i, e, h1, h2, h3, h4⟩ := hb1
        exact ⟨i, e, h1, h2, h3, .inl h4⟩
      | none =>
        refine ⟨_, rfl, true, rfl, iteT ?_⟩
        refine ⟨_, rfl, s.p, s.dx, _, rfl, SB.ob, sf_n7 _ _ _ _, _, rfl, R, s, r, ns, rfl, SB, sB _ _ hRA, TA.ext sB, hlen, fun b2 HC eC nC TC hb2 => ?_⟩
        have SC : Sh CP CS R HC s := SB.keep fun a o hra q => eC a o q (plain_tbl (SB.plain hra o q))
        refine ⟨b2, rfl, fun a o q n => eC a o (eB a o q n) n, SC, TC, ?_⟩
        cases b2 with
        | none => exact fun j e he hm => ⟨hb1 j e (List.getElem?_eq_some_iff.mp he).1 he hm, hb2 j e he hm⟩
        | some n =>
          obtain ⟨i, e, h1, h2, h3, h4⟩ := hb2
          exact ⟨i, e, h1, h2, h3, .inr ⟨h4, fun j e' he' hm => hb1 j e' (List.getElem?_eq_some_iff.mp he').1 he' hm⟩⟩
    rintro σ H3 ⟨b, rfl, e3, S3, T3, hpick⟩
    -- the second cut
    refine ⟨fun σ H4 => σ = [some (.ref s.p), some (.ref r), some (ov b), none] ∧ FrT R H H4 ∧ Tabs (TL Pt) H4 ∧ ∃ es1, Inc b s.es es1 ∧ Sh CP CS R H4 { s with es := es1 }, ?_, ?_⟩
    · cases b with
      | none =>
        refine ⟨_, rfl, false, rfl, iteF ?_⟩
        exact ⟨rfl, .ext e3, T3, s.es, rfl, S3⟩
      | some n =>
        obtain ⟨i, e, he, rfl, _, _⟩ := hpick
        obtain ⟨dxe, hpo⟩ := S3.po i e he
        refine ⟨_, rfl, true, rfl, iteT ?_⟩
        refine ⟨_, rfl, s.p, CS, s.dx, _, _, rfl, S3.ob, T.clS, T.nPo, sf_po _ _ _ _, _, rfl, s.d, _, rfl, S3.get he, e.2.1, CP, dxe, _, _, rfl, hpo, T.clP, T.nTU, pf_u _, _, _, rfl, rfl, dxe, _, hpo, pf_len _, ?_⟩
        have hx : (upd H3 e.2.1 (.ins CP dxe (putF "turns_used" (V.int (e.2.2.u + 1)) (pf e.2.2)))) e.2.1 = some (.ins CP dxe (pf { e.2.2 with u := e.2.2.u + 1 })) := by rw [upd_same, pf_uP]
        have bt : But e.2.1 H3 (upd H3 e.2.1 (.ins CP dxe (putF "turns_used" (V.int (e.2.2.u + 1)) (pf e.2.2)))) := fun a o q n => by rw [upd_ne n]; exact q
        exact ⟨rfl, (FrT.ext e3).trans (.wr (S3.re i e he)), tabs_upd T3 (S3.plain (S3.re i e he)), _, ⟨i, e, he, rfl, rfl⟩, S3.setP he bt hx⟩
    rintro σ H4 ⟨rfl, f4, T4, es1, hinc, S4⟩
    -- append; turns_passed
    refine ⟨_, rfl, s.p, CS, s.dx, _, _, rfl, S4.ob, T.clS, T.nAD, sf_ad _ _ _ _, .inl ⟨rfl, _, SqL.of S4.al⟩, _, rfl, s.l, _, _, rfl, rfl, S4.al, Nat.lt_of_le_of_lt hdl (by decide), ?_⟩
    have S5 := S4.setD (s.dl ++ [ov b])
    have f5 : FrT R H (upd H4 s.l (.lst (s.dl ++ [ov b]))) := f4.trans (.wr S4.rl)
    have T5 : Tabs (TL Pt) (upd H4 s.l (.lst (s.dl ++ [ov b]))) := tabs_upd T4 (S4.plain S4.rl)
    generalize upd H4 s.l (.lst (s.dl ++ [ov b])) = H5 at S5 f5 T5
    refine ⟨_, rfl, s.p, CS, s.dx, _, _, rfl, S5.ob, T.clS, T.nPa, sf_tp _ _ _ _, _, _, rfl, rfl, s.dx, _, S5.ob, sf_len _ _ _ _, ?_⟩
    rw [sf_tpP]
    have S6 := S5.setT (s.t + 1)
    have f6 : FrT R H (upd H5 s.p (.ins CS s.dx (sf s.L s.d (s.t + 1) s.l))) := f5.trans (.wr S5.rp)
    have T6 : Tabs (TL Pt) (upd H5 s.p (.ins CS s.dx (sf s.L s.d (s.t + 1) s.l))) := tabs_upd T5 (S5.plain S5.rp)
    show C8.tCut _ _ _ _ (upd H5 s.p (.ins CS s.dx (sf s.L s.d (s.t + 1) s.l)))
    generalize upd H5 s.p (.ins CS s.dx (sf s.L s.d (s.t + 1) s.l)) = H6 at S6 f6 T6
    refine ⟨fun σ H7 => (∃ v3 : Option V, σ = [some (.ref s.p), some (.ref r), some (ov b), v3]) ∧ FrT R H H7 ∧ Tabs (TL Pt) H7 ∧ Sh CP CS R H7 (aft s es1 b), ?_, ?_⟩
    · refine ⟨_, rfl, s.p, CS, s.dx, _, _, rfl, S6.ob, T.clS, T.nPa, sf_tp _ _ _ _, _, rfl, s.p, CS, s.dx, _, _, rfl, S6.ob, T.clS, T.nOL, sf_ol _ _ _ _, rfl, _, rfl, ?_⟩
      refine ite2 (fun hq => ?_) (fun hq => ?_)
      · have z : s.t + 1 = s.L := V.int.inj (of_decide_eq_true hq)
        refine ⟨_, rfl, s.p, CS, s.dx, _, rfl, S6.ob, T.clS, T.nPa, sf_len _ _ _ _, ?_⟩
        rw [sf_tpP]
        have S7 := S6.setT 0
        have f7 : FrT R H (upd H6 s.p (.ins CS s.dx (sf s.L s.d 0 s.l))) := f6.trans (.wr S6.rp)
        have T7 : Tabs (TL Pt) (upd H6 s.p (.ins CS s.dx (sf s.L s.d 0 s.l))) := tabs_upd T6 (S6.plain S6.rp)
        show tLock _ _ _ (upd H6 s.p (.ins CS s.dx (sf s.L s.d 0 s.l)))
        generalize upd H6 s.p (.ins CS s.dx (sf s.L s.d 0 s.l)) = H7 at S7 f7 T7
        refine ⟨s.d, .dK (kvsOf es1), S7.dc, True.intro, fun od => ?_⟩
        have S8 := S7.lock od
        have f8 : FrT R H (upd H7 s.d (.frz od (.dK (kvsOf es1)))) := f7.trans (.wr S7.rd)
        have T8 : Tabs (TL Pt) (upd H7 s.d (.frz od (.dK (kvsOf es1)))) := tabs_upd T7 (S7.plain S7.rd)
        generalize upd H7 s.d (.frz od (.dK (kvsOf es1))) = H8 at S8 f8 T8
        refine ⟨_, rfl, s.p, CS, s.dx, _, _, rfl, S8.ob, T.clS, T.nPo, sf_po _ _ _ _, s.d, od, kvsOf es1, rfl, S8.dc, ?_⟩
        refine for_it walk_values (fun i σ H9 => (∃ v3 : Option V, σ = [some (.ref s.p), some (.ref r), some (ov b), v3]) ∧ FrT R H H9 ∧ Tabs (TL Pt) H9 ∧ ShAt CP CS (some od) R H9 s.p s.dx s.d s.l s.L 0 (begN i es1) (s.dl ++ [ov b]))
          ⟨⟨none, rfl⟩, f8, T8, S8⟩ (fun i σ H9 _ h => by rw [← begN_kvs (i := i)]; exact h.2.2.2.dc) ?_ ?_
        · rintro i x σ H9 H10 hi ⟨⟨v3, rfl⟩, f9, T9, S9⟩ ⟨rfl, kk, hk⟩
          rw [kvs_len] at hi
          obtain ⟨e, he⟩ : ∃ e, es1[i]? = some e := ⟨es1[i], List.getElem?_eq_getElem hi⟩
          rw [kvs_get he] at hk
          cases hk
          have he' : (begN i es1)[i]? = some e := begN_get.trans he
          obtain ⟨dxe, hpo⟩ := S9.po i e he'
          refine ⟨_, rfl, e.2.1, dxe, _, rfl, hpo, pf_beg _, e.2.1, dxe, _, rfl, hpo, fun H11 h11 b11 => ?_⟩
          refine ⟨⟨_, rfl⟩, f9.trans (.but b11 (S9.re i e he')), tabs_but T9 b11 hpo True.intro, ?_⟩
          rw [← begN_set he]
          exact S9.setP he' b11 h11
        · rintro σ H9 ⟨hσ, f9, T9, S9⟩
          rw [kvs_len, begN_full] at S9
          have ek : kvsOf (es1.map begE) = kvsOf es1 := by rw [← begN_full, begN_kvs]
          have S10 := S9.unlock
          rw [ek] at S10
          refine ⟨?_, hσ, f9.trans (.wr S9.rd), tabs_upd T9 (S9.plain S9.rd), ?_⟩
          · have q := S9.dc
            rw [ek] at q
            exact q
          · unfold aft
            rw [if_pos z]
            exact S10
      · have z : ¬ s.t + 1 = s.L := fun z => hq (decide_eq_true (by rw [z]))
        refine ⟨⟨_, rfl⟩, f6, T6, ?_⟩
        unfold aft
        rw [if_neg z]
        exact S6
    rintro σ H7 ⟨⟨v3, rfl⟩, f7, T7, S7⟩
    exact ⟨_, rfl, k b es1 H7 hpick hinc S7 f7 T7⟩
end
end GA
namespace GA
set_option maxRecDepth 100000
set_option maxHeartbeats 4000000
open PySem L2
/-! ### the plain law: what a stretch keeps -/
def wE (e : Ent) : Int := if e.2.2.u < e.2.2.np then e.2.2.np - e.2.2.u else 0
def WW (es : List Ent) : Int := (es.map wE).sum
structure WF (L t : Int) (es : List Ent) : Prop where
  po : ∀ (i : Nat) (e : Ent), es[i]? = some e → 0 ≤ e.2.2.tp ∧ e.2.2.tp ≤ e.2.2.tc ∧ 1 ≤ e.2.2.tc ∧ e.2.2.tc ≤ L ∧ 0 ≤ e.2.2.np ∧ e.2.2.np ≤ e.2.2.nc ∧ e.2.2.nc ≤ L ∧ 0 ≤ e.2.2.u ∧ e.2.2.u ≤ e.2.2.nc
  nd : (es.map (·.1)).Nodup
  len : es.length ≤ 6
  sm : tot es ≤ L
  fresh : t = 0 → ∀ (i : Nat) (e : Ent), es[i]? = some e → e.2.2.np = e.2.2.tp ∧ e.2.2.u = 0
  t0 : 0 ≤ t
  tL : t < L
structure QI (L t : Int) (q : Str) (P C g : Int) (es : List Ent) : Prop where
  at_ : ∃ (i : Nat) (e : Ent), es[i]? = some e ∧ e.1 = q ∧ e.2.2 = ⟨P, C, P, C, g⟩
  pot : g < P → t + WW es ≤ L
theorem wE_nn (e : Ent) : 0 ≤ wE e := by
  unfold wE
  split <;> omega
theorem sum_nn : ∀ {l : List Int}, (∀ z ∈ l, 0 ≤ z) → 0 ≤ l.sum
  | [], _ => Int.le_refl _
  | a :: r, h => by
    rw [List.sum_cons]
    have h1 := h a List.mem_cons_self
    have h2 := sum_nn (l := r) fun z hz => h z (List.mem_cons_of_mem _ hz)
    omega
theorem sum_ge : ∀ {l : List Int} {z : Int}, (∀ z ∈ l, 0 ≤ z) → z ∈ l → z ≤ l.sum
  | a :: r, z, h, hz => by
    rw [List.sum_cons]
    have h1 := h a List.mem_cons_self
    have h3 := sum_nn (l := r) fun z hz => h z (List.mem_cons_of_mem _ hz)
    rcases List.mem_cons.mp hz with e | e
    · omega
    · have h2 := sum_ge (l := r) (fun z hz => h z (List.mem_cons_of_mem _ hz)) e
      omega
theorem WW_ge {es : List Ent} {i : Nat} {e : Ent} (h : es[i]? = some e) : wE e ≤ WW es := by
  refine sum_ge (fun z hz => ?_) (List.mem_map.mpr ⟨e, List.mem_of_getElem? h, rfl⟩)
  obtain ⟨e', _, rfl⟩ := List.mem_map.mp hz
  exact wE_nn e'
theorem WW_set {es : List Ent} {i : Nat} {e e' : Ent} (h : es[i]? = some e) : WW (es.set i e') = WW es - wE e + wE e' := by
  unfold WW
  rw [List.map_set]
  exact sum_set (by rw [List.getElem?_map, h] <;> rfl)
theorem tot_set {es : List Ent} {i : Nat} {e e' : Ent} (h : es[i]? = some e) : tot (es.set i e') = tot es - e.2.2.tp + e'.2.2.tp := by
  unfold tot
  rw [List.map_set]
  exact sum_set (by rw [List.getElem?_map, h] <;> rfl)
theorem WW_app {es : List Ent} {e : Ent} : WW (es ++ [e]) = WW es + wE e := by
  unfold WW
  rw [List.map_append, List.sum_append]
  show _ + (wE e + 0) = _
  omega
theorem tot_app {es : List Ent} {e : Ent} : tot (es ++ [e]) = tot es + e.2.2.tp := by
  unfold tot
  rw [List.map_append, List.sum_append]
  show _ + (e.2.2.tp + 0) = _
  omega
theorem WW_out : ∀ {es : List Ent} {n : Str}, WW (outE es n) ≤ WW es
  | [], _ => Int.le_refl _
  | e :: r, n => by
    have ih := WW_out (es := r) (n := n)
    have hn := wE_nn e
    by_cases h : e.1 = n
    · have h1 : outE (e :: r) n = outE r n := by
        unfold outE
        rw [List.filter_cons_of_neg (by simp [h])]
      rw [h1]
      show _ ≤ wE e + WW r
      omega
    · have h1 : outE (e :: r) n = e :: outE r n := by
        unfold outE
        rw [List.filter_cons_of_pos (by simp [h])]
      rw [h1]
      show wE e + WW (outE r n) ≤ wE e + WW r
      omega
theorem tot_out : ∀ {es : List Ent} {n : Str}, (∀ (i : Nat) (e : Ent), es[i]? = some e → 0 ≤ e.2.2.tp) → tot (outE es n) ≤ tot es
  | [], _, _ => Int.le_refl _
  | e :: r, n, hp => by
    have ih := tot_out (es := r) (n := n) fun i e h => hp (i + 1) e h
    have hn := hp 0 e rfl
    by_cases h : e.1 = n
    · have h1 : outE (e :: r) n = outE r n := by
        unfold outE
        rw [List.filter_cons_of_neg (by simp [h])]
      rw [h1]
      show _ ≤ e.2.2.tp + tot r
      omega
    · have h1 : outE (e :: r) n = e :: outE r n := by
        unfold outE
        rw [List.filter_cons_of_pos (by simp [h])]
      rw [h1]
      show e.2.2.tp + tot (outE r n) ≤ e.2.2.tp + tot r
      omega
/-- at the beginning of a stretch the sum is that of the promises told -/
theorem WW_fresh : ∀ {es : List Ent}, (∀ (i : Nat) (e : Ent), es[i]? = some e → e.2.2.np = e.2.2.tp ∧ e.2.2.u = 0 ∧ 0 ≤ e.2.2.tp) → WW es = tot es
  | [], _ => rfl
  | e :: r, h => by
    have ih := WW_fresh (es := r) fun i e q => h (i + 1) e q
    obtain ⟨h1, h2, h3⟩ := h 0 e rfl
    show wE e + WW r = e.2.2.tp + tot r
    rw [ih]
    unfold wE
    split <;> omega
theorem WF.WW0 {L : Int} {es : List Ent} (F : WF L 0 es) : WW es ≤ L := by
  rw [WW_fresh fun i e h => ⟨(F.fresh rfl i e h).1, (F.fresh rfl i e h).2, (F.po i e h).1⟩]
  exact F.sm
theorem WF.bnd {L t : Int} {es : List Ent} (F : WF L t es) (hL : L ≤ 60) : Bnd es := fun i e h => by
  obtain ⟨_, _, _, _, h5, h6, h7, h8, h9⟩ := F.po i e h
  exact ⟨h8, by omega, h5, by omega⟩
/-- QI at t = 0 needs no more than the entry -/
theorem QI.zero {L : Int} {q : Str} {P C g : Int} {es : List Ent} (F : WF L 0 es) (h : ∃ (i : Nat) (e : Ent), es[i]? = some e ∧ e.1 = q ∧ e.2.2 = ⟨P, C, P, C, g⟩) : QI L 0 q P C g es :=
  ⟨h, fun _ => by have := F.WW0; omega⟩
theorem set_cases {es : List Ent} {i j : Nat} {e' x : Ent} (h : (es.set i x)[j]? = some e') : (j = i ∧ e' = x ∧ i < es.length) ∨ (j ≠ i ∧ es[j]? = some e') := by
  by_cases c : j = i
  · subst c
    have hj : j < es.length := by
      have q := (List.getElem?_eq_some_iff.mp h).1
      rw [List.length_set] at q
      exact q
    rw [List.getElem?_set_self hj] at h
    exact .inl ⟨rfl, (Option.some.inj h).symm, hj⟩
  · rw [List.getElem?_set_ne (Ne.symm c)] at h
    exact .inr ⟨c, h⟩
theorem app_cases {es : List Ent} {j : Nat} {e' x : Ent} (h : (es ++ [x])[j]? = some e') : es[j]? = some e' ∨ e' = x := by
  by_cases c : j < es.length
  · rw [List.getElem?_append_left c] at h
    exact .inl h
  · rw [List.getElem?_append_right (by omega)] at h
    exact .inr (List.mem_singleton.mp (List.mem_of_getElem? h))
theorem names_set {es : List Ent} {i : Nat} {e x : Ent} (h : es[i]? = some e) (hn : x.1 = e.1) : (es.set i x).map (·.1) = es.map (·.1) := by
  have hi : i < es.length := (List.getElem?_eq_some_iff.mp h).1
  rw [List.map_set]
  apply List.ext_getElem?
  intro j
  by_cases c : j = i
  · rw [c, List.getElem?_set_self (by rw [List.length_map]; exact hi), List.getElem?_map, h, hn] <;> rfl
  · rw [List.getElem?_set_ne (Ne.symm c)]
section
variable {L t : Int} {es : List Ent} {q n : Str} {P C g : Int}
/-! others come, go, are changed -/
theorem WF.add (F : WF L t es) {x : Addr} {pr c : Int} (hn : ¬ n ∈ namesOf es) (hl : es.length < 6) (h0 : 0 ≤ pr) (h1 : 1 ≤ c) (h2 : pr ≤ c) (h3 : c ≤ L) (ht : tot es + pr ≤ L) :
    WF L t (es ++ [(n, x, ⟨pr, c, if t = 0 then pr else 0, c, 0⟩)]) where
  po := fun i e h => by
    rcases app_cases h with h | rfl
    · exact F.po i e h
    · show 0 ≤ pr ∧ pr ≤ c ∧ 1 ≤ c ∧ c ≤ L ∧ 0 ≤ (if t = 0 then pr else 0) ∧ (if t = 0 then pr else 0) ≤ c ∧ c ≤ L ∧ (0 : Int) ≤ 0 ∧ 0 ≤ c
      split <;> omega
  nd := by
    rw [List.map_append]
    exact nd_snoc F.nd hn
  len := by
    rw [List.length_append, List.length_singleton]
    omega
  sm := by rw [tot_app]; exact ht
  fresh := fun z i e h => by
    rcases app_cases h with h | rfl
    · exact F.fresh z i e h
    · exact ⟨if_pos z, rfl⟩
  t0 := F.t0
  tL := F.tL
theorem QI.add (I : QI L t q P C g es) (F : WF L t es) {x : Addr} {pr c : Int} (F' : WF L t (es ++ [(n, x, ⟨pr, c, if t = 0 then pr else 0, c, 0⟩)])) (h0 : 0 ≤ pr) : QI L t q P C g (es ++ [(n, x, ⟨pr, c, if t = 0 then pr else 0, c, 0⟩)]) := by
  obtain ⟨i, e, h1, h2, h3⟩ := I.at_
  have a : ∃ (i : Nat) (e : Ent), (es ++ [(n, x, ⟨pr, c, if t = 0 then pr else 0, c, 0⟩)])[i]? = some e ∧ e.1 = q ∧ e.2.2 = ⟨P, C, P, C, g⟩ :=
    ⟨i, e, by rw [List.getElem?_append_left (List.getElem?_eq_some_iff.mp h1).1]; exact h1, h2, h3⟩
  by_cases z : t = 0
  · subst z
    exact .zero F' a
  · refine ⟨a, fun hg => ?_⟩
    have hp := I.pot hg
    rw [WW_app]
    have : wE (n, x, ⟨pr, c, if t = 0 then pr else 0, c, 0⟩) = 0 := by
      unfold wE
      show (if (0 : Int) < (if t = 0 then pr else 0) then _ else (0 : Int)) = 0
      rw [if_neg z]
      rfl
    omega
theorem out_cases {j : Nat} {e' : Ent} (h : (outE es n)[j]? = some e') : ∃ j' : Nat, es[j']? = some e' := by
  have hm := (List.mem_filter.mp (List.mem_of_getElem? h)).1
  obtain ⟨j', hj', q⟩ := List.mem_iff_getElem.mp hm
  exact ⟨j', by rw [List.getElem?_eq_getElem hj', q]⟩
theorem WF.del (F : WF L t es) (n : Str) : WF L t (outE es n) where
  po := fun i e h => let ⟨j, q⟩ := out_cases h; F.po j e q
  nd := F.nd.sublist (List.Sublist.map _ List.filter_sublist)
  len := Nat.le_trans (List.length_filter_le _ _) F.len
  sm := Int.le_trans (tot_out fun i e h => (F.po i e h).1) F.sm
  fresh := fun z i e h => let ⟨j, q⟩ := out_cases h; F.fresh z j e q
  t0 := F.t0
  tL := F.tL
theorem QI.del (I : QI L t q P C g es) (h : q ≠ n) : QI L t q P C g (outE es n) := by
  obtain ⟨i, e, h1, h2, h3⟩ := I.at_
  have hm : e ∈ outE es n := List.mem_filter.mpr ⟨List.mem_of_getElem? h1, decide_eq_true (by rw [h2]; exact h)⟩
  obtain ⟨j, hj, q⟩ := List.mem_iff_getElem.mp hm
  refine ⟨⟨j, e, by rw [List.getElem?_eq_getElem hj, q], h2, h3⟩, fun hg => ?_⟩
  have := I.pot hg
  have := WW_out (es := es) (n := n)
  omega
theorem WF.chg (F : WF L t es) {i : Nat} {e : Ent} {pr c : Int} (he : es[i]? = some e) (h0 : 0 ≤ pr) (h1 : 1 ≤ c) (h2 : pr ≤ c) (h3 : c ≤ L) (ht : tot es - e.2.2.tp + pr ≤ L) : WF L t (es.set i (e.1, e.2.1, chg t e.2.2 pr c)) where
  po := fun j e' h => by
    rcases set_cases h with ⟨_, rfl, _⟩ | ⟨_, h⟩
    · obtain ⟨q1, q2, q3, q4, q5, q6, q7, q8, q9⟩ := F.po i e he
      unfold GA.chg
      split
      · exact ⟨h0, h2, h1, h3, h0, h2, h3, Int.le_refl _, by show (0 : Int) ≤ c; omega⟩
      · exact ⟨h0, h2, h1, h3, q5, q6, q7, q8, q9⟩
    · exact F.po j e' h
  nd := by rw [names_set (x := (e.1, e.2.1, GA.chg t e.2.2 pr c)) he rfl]; exact F.nd
  len := by rw [List.length_set]; exact F.len
  sm := by
    rw [tot_set he]
    have : (GA.chg t e.2.2 pr c).tp = pr := by
      unfold GA.chg
      split <;> rfl
    show _ - _ + (GA.chg t e.2.2 pr c).tp ≤ L
    rw [this]
    exact ht
  fresh := fun z j e' h => by
    rcases set_cases h with ⟨_, rfl, _⟩ | ⟨_, h⟩
    · unfold GA.chg
      rw [if_pos z]
      exact ⟨rfl, rfl⟩
    · exact F.fresh z j e' h
  t0 := F.t0
  tL := F.tL
theorem QI.chg (I : QI L t q P C g es) {i : Nat} {e : Ent} {pr c : Int} (F' : WF L t (es.set i (e.1, e.2.1, chg t e.2.2 pr c))) (he : es[i]? = some e) (hq : e.1 ≠ q) : QI L t q P C g (es.set i (e.1, e.2.1, chg t e.2.2 pr c)) := by
  obtain ⟨j, e', h1, h2, h3⟩ := I.at_
  have hj : j ≠ i := fun z => by
    subst z
    rw [he] at h1
    cases h1
    exact hq h2
  have a : ∃ (k : Nat) (e' : Ent), (es.set i (e.1, e.2.1, GA.chg t e.2.2 pr c))[k]? = some e' ∧ e'.1 = q ∧ e'.2.2 = ⟨P, C, P, C, g⟩ := ⟨j, e', by rw [List.getElem?_set_ne (Ne.symm hj)]; exact h1, h2, h3⟩
  by_cases z : t = 0
  · subst z
    exact .zero F' a
  · refine ⟨a, fun hg => ?_⟩
    have hp := I.pot hg
    rw [WW_set he]
    have : wE (e.1, e.2.1, GA.chg t e.2.2 pr c) = wE e := by
      unfold wE GA.chg
      rw [if_neg z]
    omega
/-! a turn is dealt -/
theorem inc_map {b : Option Str} {es1 : List Ent} (h : Inc b es es1) : es1.map (·.1) = es.map (·.1) ∧ es1.length = es.length := by
  cases b with
  | none => rw [show es1 = es from h]; exact ⟨rfl, rfl⟩
  | some n =>
    obtain ⟨i, e, h1, _, rfl⟩ := h
    exact ⟨names_set (x := (e.1, e.2.1, { e.2.2 with u := e.2.2.u + 1 })) h1 rfl, List.length_set⟩
/-- what stays of the entries -/
theorem inc_po {b : Option Str} {es1 : List Ent} {ns : List Str} (F : WF L t es) (hp : Pick ns es b) (h : Inc b es es1) :
    (∀ (i : Nat) (e : Ent), es1[i]? = some e → 0 ≤ e.2.2.tp ∧ e.2.2.tp ≤ e.2.2.tc ∧ 1 ≤ e.2.2.tc ∧ e.2.2.tc ≤ L ∧ 0 ≤ e.2.2.np ∧ e.2.2.np ≤ e.2.2.nc ∧ e.2.2.nc ≤ L ∧ 0 ≤ e.2.2.u ∧ e.2.2.u ≤ e.2.2.nc) ∧ tot es1 = tot es := by
  cases b with
  | none =>
    rw [show es1 = es from h]
    exact ⟨F.po, rfl⟩
  | some n =>
    obtain ⟨i, e, h1, h2, rfl⟩ := h
    obtain ⟨i', e', p1, p2, p3, p4⟩ := hp
    have ei := ix_name F.nd h1 p1 (h2.trans p2.symm)
    subst ei
    rw [h1] at p1
    cases p1
    refine ⟨fun j e' hj => ?_, ?_⟩
    · rcases set_cases hj with ⟨_, rfl, _⟩ | ⟨_, hj⟩
      · obtain ⟨q1, q2, q3, q4, q5, q6, q7, q8, q9⟩ := F.po i e h1
        refine ⟨q1, q2, q3, q4, q5, q6, q7, ?_, ?_⟩
        · show 0 ≤ e.2.2.u + 1
          omega
        · show e.2.2.u + 1 ≤ e.2.2.nc
          rcases p4 with p4 | p4 <;> omega
      · exact F.po j e' hj
    · rw [tot_set h1]
      show tot es - e.2.2.tp + e.2.2.tp = tot es
      omega
/-- the quiet one's turns behind it -/
def gNew (q : Str) (g : Int) (b : Option Str) : Int := if b = some q then g + 1 else g
theorem deal_at {b : Option Str} {es1 : List Ent} (F : WF L t es) (I : QI L t q P C g es) (h : Inc b es es1) : ∃ (i : Nat) (e : Ent), es1[i]? = some e ∧ e.1 = q ∧ e.2.2 = ⟨P, C, P, C, gNew q g b⟩ := by
  obtain ⟨i, e, h1, h2, h3⟩ := I.at_
  unfold gNew
  cases b with
  | none =>
    rw [show es1 = es from h, if_neg (by intro z; cases z)]
    exact ⟨i, e, h1, h2, h3⟩
  | some n =>
    obtain ⟨j, e', p1, p2, rfl⟩ := h
    by_cases z : n = q
    · have ej := ix_name F.nd p1 h1 (by rw [p2, h2, z])
      subst ej
      rw [h1] at p1
      cases p1
      refine ⟨j, (e.1, e.2.1, { e.2.2 with u := e.2.2.u + 1 }), List.getElem?_set_self (List.getElem?_eq_some_iff.mp h1).1, h2, ?_⟩
      rw [if_pos (by rw [z])]
      show ({ e.2.2 with u := e.2.2.u + 1 } : Po) = _
      rw [h3]
    · have hji : j ≠ i := fun w => by
        subst w
        rw [h1] at p1
        cases p1
        exact z (p2.symm.trans h2)
      refine ⟨i, e, by rw [List.getElem?_set_ne hji]; exact h1, h2, ?_⟩
      rw [if_neg (fun w => z (Option.some.inj w)), h3]
/-- the potential falls by a turn -/
theorem deal_pot {b : Option Str} {es1 : List Ent} {ns : List Str} (F : WF L t es) (I : QI L t q P C g es) (hp : Pick ns es b) (h : Inc b es es1) (hq : q ∈ ns) (hg : gNew q g b < P) : t + 1 + WW es1 ≤ L := by
  have hg0 : g < P := by
    unfold gNew at hg
    split at hg <;> omega
  have hpot := I.pot hg0
  obtain ⟨i, e, h1, h2, h3⟩ := I.at_
  have hlt : e.2.2.u < e.2.2.np := by rw [h3]; exact hg0
  cases b with
  | none => exact absurd hlt (hp i e h1 (by rw [h2]; exact hq)).1
  | some n =>
    obtain ⟨j, e', p1, p2, p3, p4⟩ := hp
    have p5 : e'.2.2.u < e'.2.2.np := p4.elim id fun z => absurd hlt (z.2 i e h1 (by rw [h2]; exact hq))
    obtain ⟨j', e2, r1, r2, rfl⟩ := h
    have ej := ix_name F.nd r1 p1 (r2.trans p2.symm)
    subst ej
    rw [r1] at p1
    cases p1
    rw [WW_set r1]
    have : wE (e'.1, e'.2.1, { e'.2.2 with u := e'.2.2.u + 1 }) = wE e' - 1 := by
      unfold wE
      show (if e'.2.2.u + 1 < e'.2.2.np then e'.2.2.np - (e'.2.2.u + 1) else 0) = (if e'.2.2.u < e'.2.2.np then e'.2.2.np - e'.2.2.u else 0) - 1
      rw [if_pos p5]
      split <;> omega
    omega
theorem gNew_le {b : Option Str} {es1 : List Ent} {ns : List Str} (F : WF L t es) (I : QI L t q P C g es) (hp : Pick ns es b) (h : Inc b es es1) : gNew q g b ≤ C := by
  obtain ⟨i, e, h1, h2, h3⟩ := deal_at F I h
  have := (inc_po F hp h).1 i e h1
  rw [h3] at this
  exact this.2.2.2.2.2.2.2.2
theorem deal_WF {b : Option Str} {es1 : List Ent} {ns : List Str} (F : WF L t es) (hp : Pick ns es b) (h : Inc b es es1) (hL : t + 1 < L) : WF L (t + 1) es1 where
  po := (inc_po F hp h).1
  nd := by rw [(inc_map h).1]; exact F.nd
  len := by rw [(inc_map h).2]; exact F.len
  sm := by rw [(inc_po F hp h).2]; exact F.sm
  fresh := fun z => by have := F.t0; omega
  t0 := by have := F.t0; omega
  tL := hL
theorem map_beg {j : Nat} {e' : Ent} {es1 : List Ent} (h : (es1.map begE)[j]? = some e') : ∃ e, es1[j]? = some e ∧ e' = begE e := by
  rw [List.getElem?_map] at h
  cases q : es1[j]? with
  | none =>
    rw [q] at h
    cases h
  | some e =>
    rw [q] at h
    exact ⟨e, rfl, (Option.some.inj h).symm⟩
theorem tot_beg (es1 : List Ent) : tot (es1.map begE) = tot es1 := by
  unfold tot
  rw [List.map_map] <;> rfl
theorem deal_WF0 {b : Option Str} {es1 : List Ent} {ns : List Str} (F : WF L t es) (hp : Pick ns es b) (h : Inc b es es1) : WF L 0 (es1.map begE) where
  po := fun j e' hj => by
    obtain ⟨e, he, rfl⟩ := map_beg hj
    obtain ⟨q1, q2, q3, q4, q5, q6, q7, q8, q9⟩ := (inc_po F hp h).1 j e he
    exact ⟨q1, q2, q3, q4, q1, q2, q4, Int.le_refl _, by show (0 : Int) ≤ e.2.2.tc; omega⟩
  nd := by
    have e1 : (es1.map begE).map (·.1) = es1.map (·.1) := by rw [List.map_map] <;> rfl
    rw [e1, (inc_map h).1]
    exact F.nd
  len := by rw [List.length_map, (inc_map h).2]; exact F.len
  sm := by rw [tot_beg, (inc_po F hp h).2]; exact F.sm
  fresh := fun _ j e' hj => by
    obtain ⟨e, he, rfl⟩ := map_beg hj
    exact ⟨rfl, rfl⟩
  t0 := Int.le_refl _
  tL := by have := F.t0; have := F.tL; omega
theorem deal_QI {b : Option Str} {es1 : List Ent} {ns : List Str} (F : WF L t es) (I : QI L t q P C g es) (hp : Pick ns es b) (h : Inc b es es1) (hq : q ∈ ns) : QI L (t + 1) q P C (gNew q g b) es1 :=
  ⟨deal_at F I h, deal_pot F I hp h hq⟩
theorem deal_QI0 {b : Option Str} {es1 : List Ent} {ns : List Str} (F : WF L t es) (I : QI L t q P C g es) (hp : Pick ns es b) (h : Inc b es es1) : QI L 0 q P C 0 (es1.map begE) := by
  refine .zero (deal_WF0 F hp h) ?_
  obtain ⟨i, e, h1, h2, h3⟩ := deal_at F I h
  refine ⟨i, begE e, by rw [List.getElem?_map, h1] <;> rfl, h2, ?_⟩
  show beg e.2.2 = _
  rw [h3] <;> rfl
/-- a whole stretch: the promise at least -/
theorem deal_least {b : Option Str} {es1 : List Ent} {ns : List Str} (F : WF L t es) (I : QI L t q P C g es) (hp : Pick ns es b) (h : Inc b es es1) (hq : q ∈ ns) (ht : t + 1 = L) : P ≤ gNew q g b := by
  by_cases c : gNew q g b < P
  · have h1 := deal_pot F I hp h hq c
    obtain ⟨i, e, a1, a2, a3⟩ := deal_at F I h
    have h2 := WW_ge a1
    have h3 : wE e = P - gNew q g b := by
      unfold wE
      rw [a3]
      exact if_pos c
    omega
  · omega
/-- alone -/
theorem deal_alone {b : Option Str} {ns : List Str} (I : QI L t q P C g es) (hp : Pick ns es b) (hq : q ∈ ns) (h1 : es.length = 1) (ha : t ≤ g ∨ C ≤ g) : t + 1 ≤ gNew q g b ∨ C ≤ gNew q g b := by
  obtain ⟨i, e, a1, a2, a3⟩ := I.at_
  have hi : i = 0 := by
    have := (List.getElem?_eq_some_iff.mp a1).1
    omega
  subst hi
  unfold gNew
  cases b with
  | none =>
    have := (hp 0 e a1 (by rw [a2]; exact hq)).2
    rw [a3] at this
    rw [if_neg (by intro z; cases z)]
    exact .inr (by
      have q : ¬ g < C := this
      omega)
  | some n =>
    obtain ⟨j, e', p1, p2, _⟩ := hp
    have hj : j = 0 := by
      have := (List.getElem?_eq_some_iff.mp p1).1
      omega
    subst hj
    rw [a1] at p1
    cases p1
    rw [if_pos (by rw [← p2, a2])]
    omega
end
end GA
namespace GA
set_option maxRecDepth 100000
set_option maxHeartbeats 4000000
open PySem PySem.Spec PyProof.Rows L2
theorem SqL.keep {K : PySem.W.Frag} {H H' : Hp} {a : Addr} {xs : List V} (h : SqL K H a xs) (k : ∀ o, H a = some o → (∀ ps, o ≠ .tbl ps) → H' a = some o) : SqL K H' a xs := by
  rcases h with (h | ⟨o, h⟩) | h
  · exact .inl (.inl (k _ h (fun _ z => nomatch z)))
  · exact .inl (.inr ⟨o, k _ h (fun _ z => nomatch z)⟩)
  · exact .inr h
/-! ### _law_cell, _law_box, _law_share -/
def spCell (K : PySem.W.Frag) : Sp := fun vs H Q _ => ∃ (a : Addr) (ns : List Int) (k : Nat), vs = [.ref a, .int k] ∧ SqL K H a (ns.map V.int) ∧ k ≤ 100 ∧ ∀ z, Q (.int z) H
def spBox : Sp := fun vs H Q _ => ∃ z : Int, vs = [.int z] ∧ ∀ p H', H p = none → Same H H' → BoxAt H' p 0 → Q (.ref p) H'
def spShare : Sp := fun vs H Q _ => ∃ (b : Addr) (c L f : Int), vs = [.ref b, .int L, .int f] ∧ BoxAt H b c ∧ c + 10 ≤ 2 ^ 40 ∧ 1 ≤ L ∧ L ≤ 60 ∧ 0 ≤ f ∧
  ∀ (p : Addr) (P C : Int) (H' : Hp), H p = none → H' p = some (.tup [.int P, .int C]) → 0 ≤ P → P ≤ f → P ≤ C → 1 ≤ C → C ≤ L → BoxAt H' b (c + 4) → But b H H' → Q (.ref p) H'
section
variable {P : Program} {w : World} {K : PySem.W.Frag} {mg : Str → Option Value} {base : Heap} {CP CS : Addr}
theorem scCell : FnScope ["_law_script", "_law_k"] ["_law_script", "_law_k"] (defScope sLCell) := ⟨rfl, rfl, rfl, by decide +kernel, rfl, by decide +kernel, by decide +kernel⟩
theorem ok_cell {f : Addr} {fd : FuncData} (T : Txt K mg CP CS) (F : FnP K "_law_cell" "_law_cell" sLCell f fd) : FnOk P w K mg base CX0 1 f fd ["_law_script", "_law_k"] (spCell K) := by
  refine fn_ok F scCell (fun vs H Q E h => ?_) (fun cdv A outer s H vs Q E hr h => ?_)
  · obtain ⟨a, ns, k, rfl, _⟩ := h
    rfl
  · obtain ⟨a, ns, k, rfl, S, hk, q⟩ := h
    refine ⟨_, pss_cons (ps_if (pt_cmpR op_lt (pv 1) (pe_callB call_len_seq (by rfl) T.len PySem.boot_len (pa_cons (pv 0) pa_nil)) (nomark _)) (pss_one (ps_ret (pe_ix ix_list (pv 0) (pv 1) (fun _ _ => rfl)))) pss_nil)
      (pss_one (ps_ret (pe_op op_add (pe_op op_mul pe_int (pv 1)) pe_int))), ?_⟩
    refine ⟨_, rfl, _, rfl, a, ns.map V.int, rfl, .inl S, k, _, rfl, rfl, _, rfl, ?_⟩
    refine ite2 (fun hx => ?_) (fun hx => ?_)
    · have hx' : (k : Int) < ((ns.map V.int).length : Int) := of_decide_eq_true hx
      rw [List.length_map] at hx'
      have hl : k < ns.length := by omega
      refine ⟨_, rfl, _, rfl, a, _, (k : Int), .int ns[k], rfl, rfl, S, at_of (j := k) rfl (by rw [List.getElem?_map, List.getElem?_eq_getElem hl] <;> rfl), q _⟩
    · exact ⟨_, rfl, 7919, k, rfl, rfl, .inl ⟨by decide, by omega⟩, _, 57, rfl, rfl, q _⟩
theorem scBox : FnScope ["_law_cell_here"] ["_law_cell_here"] (defScope sLBox) := ⟨rfl, rfl, rfl, by decide +kernel, rfl, by decide +kernel, by decide +kernel⟩
theorem ok_box {f : Addr} {fd : FuncData} (T : Txt K mg CP CS) (F : FnP K "_law_box" "_law_box" sLBox f fd) : FnOk P w K mg base CX0 1 f fd ["_law_cell_here"] spBox := by
  refine fn_ok F scBox (fun vs H Q E h => ?_) (fun cdv A outer s H vs Q E hr h => ?_)
  · obtain ⟨z, rfl, _⟩ := h
    rfl
  · obtain ⟨z, rfl, q⟩ := h
    refine ⟨_, pss_one (ps_ret (pe_lst (pa_cons (pe_callB (call_max2 rfl) (by rfl) T.max boot_max (pa_cons pe_int (pa_cons (pe_op op_sub (pv 0) (pe_op op_pow pe_int pe_int)) pa_nil)))
      (pa_cons (pe_op op_modN (pv 0) pe_int) (pa_cons pe_int pa_nil))))), ?_⟩
    refine ⟨_, rfl, 10, 18, rfl, rfl, ⟨by decide, by decide, by decide⟩, z, _, rfl, rfl, 0, _, rfl, _, rfl, z, 2147483629, rfl, rfl, (by show (2147483629 : Int) ≠ 0; decide), (by show 3 ≤ sizeLine; decide), fun p hp => ?_⟩
    refine q p _ hp (same_new hp) ⟨_, _, _, upd_same, ?_, fmod_lo (by decide), fmod_hi (by decide), by decide, by decide⟩
    split <;> omega
theorem scShare : FnScope ["_law_box_here", "_law_length_here", "_law_free", "_law_promise", "_law_low"] ["_law_box_here", "_law_length_here", "_law_free"] (defScope sLShare) := ⟨rfl, rfl, rfl, by decide +kernel, rfl, by decide +kernel, by decide +kernel⟩
theorem ok_share {f : Addr} {fd : FuncData} (T : Txt K mg CP CS) (GT : GFn P w K mg base 1 "_law_take" ["_law_box_here", "_law_size"] spTake) (F : FnP K "_law_share" "_law_share" sLShare f fd) : FnOk P w K mg base CX0 2 f fd ["_law_box_here", "_law_length_here", "_law_free"] spShare := by
  refine fn_ok F scShare (fun vs H Q E h => ?_) (fun cdv A outer s H vs Q E hr h => ?_)
  · obtain ⟨b, c, L, f, rfl, _⟩ := h
    rfl
  · obtain ⟨b, c, L, f, rfl, B, hc, h1, h2, h3, q⟩ := h
    refine ⟨_, pss_cons (ps_set (i := 3) scShare.nd rfl (Or.inl rfl) (pe_ix ix_list (pe_lst (pa_cons pe_int (pa_cons pe_int (pa_cons (gcall GT hr (by decide) (by rfl) (pa_cons (pv 0) (pa_cons (pe_op op_add (pv 1) pe_int) pa_nil))) pa_nil))))
        (gcall GT hr (by decide) (by rfl) (pa_cons (pv 0) (pa_cons pe_int pa_nil))) (fun _ _ => rfl)))
      (pss_cons (ps_set (i := 3) scShare.nd rfl (Or.inl rfl) (pe_callB (call_min2 rfl) (by rfl) T.min boot_min (pa_cons (pv 2) (pa_cons (pv 3) pa_nil))))
      (pss_cons (ps_set (i := 4) scShare.nd rfl (Or.inl rfl) (pe_callB (call_max2 rfl) (by rfl) T.max boot_max (pa_cons pe_int (pa_cons (pv 3) pa_nil))))
      (pss_one (ps_ret (pe_tup (pa_cons (pv 3) (pa_cons (pe_ix ix_list (pe_lst (pa_cons (pv 1) (pa_cons (pv 4) (pa_cons (pe_op op_add (pv 4) (gcall GT hr (by decide) (by rfl) (pa_cons (pv 0) (pa_cons (pe_op op_add (pe_op op_sub (pv 1) (pv 4)) pe_int) pa_nil)))) pa_nil))))
        (gcall GT hr (by decide) (by rfl) (pa_cons (pv 0) (pa_cons pe_int pa_nil))) (fun _ _ => rfl)) pa_nil))))))), ?_⟩
    have hb : ∀ {H' : Hp} {q : Addr} {c : Int}, BoxAt H' b c → H' q = none → b ≠ q := fun ⟨_, _, _, e, _⟩ n => ne_of_none e n
    refine ⟨_, rfl, _, rfl, L, 1, rfl, rfl, b, c, L + 1, rfl, B, by omega, by omega, by omega, fun d H1 d0 d1 B1 k1 => ?_⟩
    refine ⟨(by show 3 ≤ sizeLine; decide), fun p1 n1 => ?_⟩
    have B2 : BoxAt (upd H1 p1 (.lst [.int 0, .int 1, .int d])) b (c + 1) := B1.at_ fun o e => by rw [upd_ne (hb B1 n1)]; exact e
    have k2 : But b H (upd H1 p1 (.lst [.int 0, .int 1, .int d])) := k1.new n1
    refine ⟨_, rfl, b, c + 1, 3, rfl, B2, by omega, by decide, by decide, fun i H3 i0 i1 B3 k3 => ?_⟩
    have e3 : H3 p1 = some (.lst [.int 0, .int 1, .int d]) := k3 _ _ upd_same (hb B1 n1).symm
    have B3' := B3
    obtain ⟨x, hx, x0, x1⟩ : ∃ x, atI [V.int 0, .int 1, .int d] i = some (.int x) ∧ 0 ≤ x ∧ x ≤ L := by
      rcases (by omega : i = 0 ∨ i = 1 ∨ i = 2) with rfl | rfl | rfl
      · exact ⟨0, a0, by omega, by omega⟩
      · exact ⟨1, a1, by omega, by omega⟩
      · exact ⟨d, a2, d0, by omega⟩
    refine ⟨p1, _, i, .int x, rfl, rfl, .of e3, hx, ?_⟩
    refine ⟨_, rfl, _, rfl, f, x, rfl, ?_⟩
    obtain ⟨pr, hpr⟩ : ∃ pr, pr = (if x < f then x else f) := ⟨_, rfl⟩
    have p0 : 0 ≤ pr := by rw [hpr]; split <;> omega
    have p1' : pr ≤ f := by rw [hpr]; split <;> omega
    have p2 : pr ≤ L := by rw [hpr]; split <;> omega
    rw [← hpr]
    refine ⟨_, rfl, 1, pr, rfl, ?_⟩
    obtain ⟨lo, hlo⟩ : ∃ lo, lo = (if pr > 1 then pr else 1) := ⟨_, rfl⟩
    have l0 : 1 ≤ lo := by rw [hlo]; split <;> omega
    have l1 : pr ≤ lo := by rw [hlo]; split <;> omega
    have l2 : lo ≤ L := by rw [hlo]; split <;> omega
    rw [← hlo]
    have k4 : But b H H3 := k2.trans k3
    refine ⟨_, rfl, _, rfl, _, rfl, _, rfl, _, rfl, _, rfl, _, rfl, L, lo, rfl, rfl, L - lo, 1, rfl, rfl, b, c + 1 + 1, L - lo + 1, rfl, B3, by omega, by omega, by omega, fun d' H5 d0' d1' B5 k5 => ?_⟩
    refine ⟨lo, d', rfl, rfl, (by show 3 ≤ sizeLine; decide), fun p6 n6 => ?_⟩
    have B6 : BoxAt (upd H5 p6 (.lst [.int L, .int lo, .int (lo + d')])) b (c + 1 + 1 + 1) := B5.at_ fun o e => by rw [upd_ne (hb B5 n6)]; exact e
    refine ⟨_, rfl, b, c + 1 + 1 + 1, 3, rfl, B6, by omega, by decide, by decide, fun i7 H7 i70 i71 B7 k7 => ?_⟩
    have e7 : H7 p6 = some (.lst [.int L, .int lo, .int (lo + d')]) := k7 _ _ upd_same (hb B5 n6).symm
    obtain ⟨y, hy, y0, y1, y2⟩ : ∃ y, atI [V.int L, .int lo, .int (lo + d')] i7 = some (.int y) ∧ lo ≤ y ∧ 1 ≤ y ∧ y ≤ L := by
      rcases (by omega : i7 = 0 ∨ i7 = 1 ∨ i7 = 2) with rfl | rfl | rfl
      · exact ⟨L, a0, by omega, by omega, by omega⟩
      · exact ⟨lo, a1, by omega, by omega, by omega⟩
      · exact ⟨lo + d', a2, by omega, by omega, by omega⟩
    refine ⟨p6, _, i7, .int y, rfl, rfl, .of e7, hy, (by show 2 ≤ sizeLine; decide), fun p8 n8 => ?_⟩
    have k8 : But b H H7 := (k4.trans (k5.new n6)).trans k7
    have hp8 : p8 ≠ b := (hb B7 n8).symm
    refine q p8 pr y _ (k8.free hp8 n8) upd_same p0 p1' (by omega) y1 y2 ?_ (k8.new n8)
    have B8 : BoxAt (upd H7 p8 (.tup [.int pr, .int y])) b (c + 1 + 1 + 1 + 1) := B7.at_ fun o e => by rw [upd_ne hp8.symm]; exact e
    exact B8.mono (by omega)
end
end GA
namespace GA
set_option maxRecDepth 100000
set_option maxHeartbeats 4000000
open PySem PySem.Spec PyProof.Rows L2 TL
/-! ### the names, plainly -/
theorem len_tl (x : Str) : x.length = (tl x).length := by
  show x.cps.size = x.cps.toList.length
  rw [Array.length_toList]
theorem joinL_nil : ∀ ps : List (List Nat), joinL [] ps = ps.flatten
  | [] => rfl
  | [p] => by
    show p = p ++ []
    rw [List.append_nil]
  | p :: q :: r => by
    show p ++ ([] ++ joinL [] (q :: r)) = p ++ (q :: r).flatten
    rw [joinL_nil (q :: r), List.nil_append]
theorem join_ok (y : Str) (hy : tl y = []) (ps : List Str) (h : ∀ p ∈ ps, ∃ c ∈ LET.cps.toList, p = ⟨#[c]⟩) : (Txt.join y ps).length = ps.length ∧ ∀ c ∈ tl (Txt.join y ps), c ∈ LET.cps.toList := by
  have e : tl (Txt.join y ps) = (ps.map tl).flatten := by rw [join_eq, tl_join, hy, joinL_nil]
  rw [len_tl, e]
  clear e
  induction ps with
  | nil => exact ⟨rfl, fun c hc => by cases hc⟩
  | cons p r ih =>
    obtain ⟨c, hc, rfl⟩ := h p List.mem_cons_self
    obtain ⟨i1, i2⟩ := ih fun p hp => h p (List.mem_cons_of_mem _ hp)
    have e1 : ((⟨#[c]⟩ :: r).map tl).flatten = c :: (r.map tl).flatten := rfl
    rw [e1]
    refine ⟨by rw [List.length_cons, List.length_cons, i1], fun d hd => ?_⟩
    rcases List.mem_cons.mp hd with z | z
    · rw [z]
      exact hc
    · exact i2 d z
theorem let_len : LET.cps.toList.length = 26 := by decide +kernel
def chr (j : Nat) : Nat := LET.cps.toList.getD j 0
theorem chr_at {j : Nat} (h : j < 26) : LET.cps.toList[j]? = some (chr j) := by
  unfold chr
  rw [List.getD_eq_getElem?_getD, List.getElem?_eq_getElem (by rw [let_len]; exact h)] <;> rfl
theorem chr_mem {j : Nat} (h : j < 26) : chr j ∈ LET.cps.toList := List.mem_of_getElem? (chr_at h)
theorem chr_inj {i j : Nat} (hi : i < 26) (hj : j < 26) (h : chr i = chr j) : i = j := by
  have nd : LET.cps.toList.Nodup := by decide +kernel
  have h1 := chr_at hi
  have h2 := chr_at hj
  rw [h] at h1
  exact (List.getElem?_inj (by rw [let_len]; exact hi) nd).mp (h1.trans h2.symm)
theorem at_chr {i : Int} (h0 : 0 ≤ i) (h1 : i < 26) : atI LET.cps.toList i = some (chr i.toNat) := by
  obtain ⟨n, rfl⟩ := Int.eq_ofNat_of_zero_le h0
  exact atI_nat (chr_at (by omega))
def chI (sh k : Int) : Nat := ((sh + 7 * k).fmod 26).toNat
theorem chI_lt (sh k : Int) : chI sh k < 26 := by
  have h1 := fmod_lo (i := sh + 7 * k) (j := 26) (by decide)
  have h2 := fmod_hi (i := sh + 7 * k) (j := 26) (by decide)
  unfold chI
  omega
theorem chI_inj {sh j k : Int} (hj : 0 ≤ j ∧ j < 7) (hk : 0 ≤ k ∧ k < 7) (h : chI sh j = chI sh k) : j = k := by
  unfold chI at h
  rw [Int.fmod_eq_emod_of_nonneg _ (by decide : (0 : Int) ≤ 26), Int.fmod_eq_emod_of_nonneg _ (by decide : (0 : Int) ≤ 26)] at h
  omega
/-- one of the middle names -/
def someN (st : Str) (pl sh k : Int) : Str := cutS st none (some pl) ++ ⟨#[chr (chI sh k)]⟩ ++ cutS st (some pl) none
theorem tl_cut0 (z : Str) {p : Int} (h : 0 ≤ p) : tl (cutS z none (some p)) = (tl z).take p.toNat := by
  obtain ⟨n, rfl⟩ := Int.eq_ofNat_of_zero_le h
  show ((z.cps.toList.drop (HT.sIx z.length 0 none)).take (HT.sIx z.length z.length (some (n : Int)) - HT.sIx z.length 0 none)) = z.cps.toList.take ((n : Int)).toNat
  rw [HT.sIx_nat, HT.sIx_none, List.drop_zero, Nat.sub_zero, Int.toNat_natCast]
  have e : z.length = z.cps.toList.length := len_tl z
  rw [e]
  by_cases c : n ≤ z.cps.toList.length
  · rw [Nat.min_eq_left c]
  · rw [Nat.min_eq_right (by omega), List.take_length, List.take_of_length_le (by omega)]
theorem tl_cut1 (z : Str) {p : Int} (h : 0 ≤ p) : tl (cutS z (some p) none) = (tl z).drop p.toNat := by
  obtain ⟨n, rfl⟩ := Int.eq_ofNat_of_zero_le h
  show ((z.cps.toList.drop (HT.sIx z.length 0 (some (n : Int)))).take (HT.sIx z.length z.length none - HT.sIx z.length 0 (some (n : Int)))) = z.cps.toList.drop ((n : Int)).toNat
  rw [HT.sIx_nat, HT.sIx_none, Int.toNat_natCast]
  have e : z.length = z.cps.toList.length := len_tl z
  rw [e]
  by_cases c : n ≤ z.cps.toList.length
  · rw [Nat.min_eq_left c, List.take_of_length_le (by rw [List.length_drop] <;> omega)]
  · rw [Nat.min_eq_right (by omega), Nat.sub_self, List.take_zero, List.drop_of_length_le (by omega)]
theorem tl_some (st : Str) {pl : Int} (sh k : Int) (h : 0 ≤ pl) : tl (someN st pl sh k) = (tl st).take pl.toNat ++ chr (chI sh k) :: (tl st).drop pl.toNat := by
  unfold someN
  rw [tl_append, tl_append, tl_cut0 st h, tl_cut1 st h, List.append_assoc]
  rfl
theorem some_len (st : Str) {pl : Int} (sh k : Int) (h : 0 ≤ pl) : (someN st pl sh k).length = st.length + 1 := by
  rw [len_tl, tl_some st sh k h, List.length_append, List.length_cons, len_tl, List.length_take, List.length_drop]
  omega
/-- a tail -/
def tailI (i : Int) : Str := if i = 0 then "" else if i = 1 then "z" else "aa"
theorem tail_ok (i : Int) : (tailI i).length ≤ 2 ∧ ∀ c ∈ tl (tailI i), c ∈ LET.cps.toList := by
  unfold tailI
  split
  · exact ⟨by decide +kernel, by decide +kernel⟩
  · split
    · exact ⟨by decide +kernel, by decide +kernel⟩
    · exact ⟨by decide +kernel, by decide +kernel⟩
def nmK (st : Str) (pl sh : Int) (k : Nat) : Str := someN st pl sh k ++ tailI ((sh + k).fmod 3)
theorem str_len_append (x y : Str) : (x ++ y).length = x.length + y.length := by
  rw [len_tl, tl_append, List.length_append, len_tl, len_tl]
theorem nm_ok {st : Str} {pl sh : Int} (k : Nat) (h0 : 0 ≤ pl) (hl : st.length ≤ 5) (hs : ∀ c ∈ tl st, c ∈ LET.cps.toList) : OkName (nmK st pl sh k) := by
  obtain ⟨t1, t2⟩ := tail_ok ((sh + k).fmod 3)
  refine ⟨?_, ?_, ?_⟩
  · unfold nmK
    rw [str_len_append, some_len _ _ _ h0]
    omega
  · unfold nmK
    rw [str_len_append, some_len _ _ _ h0]
    omega
  · intro c hc
    have hc' : c ∈ tl (nmK st pl sh k) := hc
    unfold nmK at hc'
    rw [tl_append, tl_some _ _ _ h0] at hc'
    rcases List.mem_append.mp hc' with z | z
    · rcases List.mem_append.mp z with z | z
      · exact hs c (List.mem_of_mem_take z)
      · rcases List.mem_cons.mp z with z | z
        · rw [z]
          exact chr_mem (chI_lt _ _)
        · exact hs c (List.mem_of_mem_drop z)
    · exact t2 c z
theorem nm_inj {st : Str} {pl sh : Int} {j k : Nat} (h0 : 0 ≤ pl) (hj : j < 7) (hk : k < 7) (h : nmK st pl sh j = nmK st pl sh k) : j = k := by
  have e := congrArg tl h
  unfold nmK at e
  rw [tl_append, tl_append, tl_some _ _ _ h0, tl_some _ _ _ h0, List.append_assoc, List.append_assoc] at e
  have e2 := List.append_cancel_left e
  have e3 : chr (chI sh j) = chr (chI sh k) := by
    injection e2
  have e4 := chr_inj (chI_lt _ _) (chI_lt _ _) e3
  have e5 := chI_inj (j := (j : Int)) (k := (k : Int)) ⟨by omega, by omega⟩ ⟨by omega, by omega⟩ e4
  omega
def nms (st : Str) (pl sh : Int) : List Str := (List.range 7).map (nmK st pl sh)
theorem nms_nd {st : Str} {pl sh : Int} (h0 : 0 ≤ pl) : (nms st pl sh).Nodup := by
  unfold nms
  refine List.pairwise_iff_getElem.mpr fun i j hi hj hij z => ?_
  rw [List.length_map, List.length_range] at hi hj
  rw [List.getElem_map, List.getElem_map, List.getElem_range, List.getElem_range] at z
  have := nm_inj (j := i) (k := j) h0 (by omega) (by omega) z
  omega
theorem nms_ok {st : Str} {pl sh : Int} (h0 : 0 ≤ pl) (hl : st.length ≤ 5) (hs : ∀ c ∈ tl st, c ∈ LET.cps.toList) : ∀ n ∈ nms st pl sh, OkName n := fun n hn => by
  obtain ⟨k, _, rfl⟩ := List.mem_map.mp hn
  exact nm_ok k h0 hl hs
end GA
namespace GA
set_option maxRecDepth 100000
set_option maxHeartbeats 4000000
open PySem PySem.Spec PyProof.Rows L2 TL
/-! ### _law_names -/
abbrev NN : List Str := ["_law_box_here", "_law_size", "_law_small", "_law_stem", "_law_place", "_law_shift", "_law_tails", "_law_some", "_law_turn", "_law_k"]
def rAddS : R2 := fun x y H Q => ∃ i j, x = .str i ∧ y = .str j ∧ i.length + j.length ≤ sizeLine ∧ Q (.str (i ++ j)) H
def spNamesL : Sp := fun vs H Q _ => ∃ (b : Addr) (c : Int), vs = [.ref b, .int 7] ∧ BoxAt H b c ∧ c + 100 ≤ 2 ^ 40 ∧
  ∀ (r : Addr) (ns : List Str) (H' : Hp), H r = none → H' r = some (.lst (ns.map V.str)) → ns.length = 7 → ns.Nodup → (∀ n ∈ ns, OkName n) → BoxAt H' b (c + 20) → But b H H' → Q (.ref r) H'
theorem one_sum : ∀ {ys : List Str}, (∀ p ∈ ys, ∃ c ∈ LET.cps.toList, p = ⟨#[c]⟩) → (ys.map (·.length)).sum = ys.length
  | [], _ => rfl
  | p :: r, h => by
    obtain ⟨c, _, rfl⟩ := h p List.mem_cons_self
    rw [List.map_cons, List.sum_cons, one_sum fun q hq => h q (List.mem_cons_of_mem _ hq), List.length_cons]
    show 1 + r.length = r.length + 1
    omega
theorem BoxAt.ne {H : Hp} {b q : Addr} {c : Int} (h : BoxAt H b c) (n : H q = none) : b ≠ q := by
  obtain ⟨_, _, _, e, _⟩ := h
  exact ne_of_none e n
theorem BoxAt.new {H : Hp} {b q : Addr} {c : Int} {o : HO} (h : BoxAt H b c) (n : H q = none) : BoxAt (upd H q o) b c := h.at_ fun o e => by rw [upd_ne (h.ne n)]; exact e
theorem BoxAt.oth {H : Hp} {b q : Addr} {c : Int} {o : HO} (h : BoxAt H b c) (n : b ≠ q) : BoxAt (upd H q o) b c := h.at_ fun o e => by rw [upd_ne n]; exact e
section
variable {P : Program} {w : World} {K : PySem.W.Frag} {mg : Str → Option Value} {base : Heap} {CP CS : Addr}
theorem scNamesL : FnScope NN ["_law_box_here", "_law_size"] (defScope sLNames) := ⟨rfl, rfl, rfl, by decide +kernel, rfl, by decide +kernel, by decide +kernel⟩
theorem ok_namesL {f : Addr} {fd : FuncData} (T : Txt K mg CP CS) (GT : GFn P w K mg base 1 "_law_take" ["_law_box_here", "_law_size"] spTake) (F : FnP K "_law_names" "_law_names" sLNames f fd) : FnOk P w K mg base CX0 2 f fd ["_law_box_here", "_law_size"] spNamesL := by
  refine fn_ok F scNamesL (fun vs H Q E h => ?_) (fun cdv A outer s H vs Q E hr h => ?_)
  · obtain ⟨b, c, rfl, _⟩ := h
    rfl
  · obtain ⟨b, c, rfl, B, hc, q⟩ := h
    refine ⟨_, pss_cons (ps_set (i := 2) scNamesL.nd rfl (Or.inr rfl) pe_str)
      (pss_cons (ps_set (i := 3) scNamesL.nd rfl (Or.inr rfl) (pe_join pe_str (pe_lc (own := [("_law_turn", 8)]) (g := gName 8) (tt := tYes) rfl scNamesL.nd
        (pi_range1 (by rfl) T.range (pa_cons (gcall GT hr (by decide) (by rfl) (pa_cons (pv 0) (pa_cons pe_int pa_nil))) pa_nil)) (blkOk_by (N := NN) (sc := defScope sLNames) (by decide +kernel))
        (fun _ _ _ _ _ => pg_name (i := 8) scNamesL.nd rfl (Or.inl rfl)) (fun _ _ _ _ _ => pts_nil) (fun _ _ _ _ _ => pe_ix ix_str (pv 2) (gcall GT hr (by decide) (by rfl) (pa_cons (pv 0) (pa_cons pe_int pa_nil))) (fun _ _ => rfl)))))
      (pss_cons (ps_set (i := 4) scNamesL.nd rfl (Or.inr rfl) (gcall GT hr (by decide) (by rfl) (pa_cons (pv 0) (pa_cons (pe_op op_add (pe_callB call_len_str (by rfl) T.len PySem.boot_len (pa_cons (pv 3) pa_nil)) pe_int) pa_nil))))
      (pss_cons (ps_set (i := 5) scNamesL.nd rfl (Or.inr rfl) (gcall GT hr (by decide) (by rfl) (pa_cons (pv 0) (pa_cons pe_int pa_nil))))
      (pss_cons (ps_set (i := 6) scNamesL.nd rfl (Or.inr rfl) (pe_lst (pa_cons pe_str (pa_cons pe_str (pa_cons pe_str pa_nil)))))
      (pss_cons (ps_set (i := 7) scNamesL.nd rfl (Or.inr rfl) (pe_lc (own := [("_law_k", 9)]) (g := gName 9) (tt := tYes) rfl scNamesL.nd
        (pi_range1 (by rfl) T.range (pa_cons (pv 1) pa_nil)) (blkOk_by (N := NN) (sc := defScope sLNames) (by decide +kernel))
        (fun _ _ _ _ _ => pg_name (i := 9) scNamesL.nd rfl (Or.inl rfl)) (fun _ _ _ _ _ => pts_nil)
        (fun _ _ _ _ _ => pe_op op_add_str (pe_op op_add_str (pe_slice sl_str (pv 3) po_none (po_some (pv 4))) (pe_ix ix_str (pv 2) (pe_op op_modN (pe_op op_add (pv 5) (pe_op op_mul pe_int (pv 9))) pe_int) (fun _ _ => rfl))) (pe_slice sl_str (pv 3) (po_some (pv 4)) po_none))))
      (pss_one (ps_ret (pe_lc (own := [("_law_k", 9)]) (g := gName 9) (tt := tYes) (te := tOp rAddS (tOp (rIxL K) (tVar 7) (tVar 9)) (tOp (rIxL K) (tVar 6) (tOp (rI (fun _ j => j ≠ 0) fun i j => .int (i.fmod j)) (tOp (rI0 fun i j => .int (i + j)) (tVar 5) (tVar 9)) (tC (.int 3))))) rfl scNamesL.nd
        (pi_range1 (by rfl) T.range (pa_cons (pv 1) pa_nil)) (blkOk_by (N := NN) (sc := defScope sLNames) (by decide +kernel))
        (fun _ _ _ _ _ => pg_name (i := 9) scNamesL.nd rfl (Or.inl rfl)) (fun _ _ _ _ _ => pts_nil)
        (fun _ _ _ _ _ => pe_op op_add_str (pe_ix ix_list (pv 7) (pv 9) (fun _ _ => rfl)) (pe_ix ix_list (pv 6) (pe_op op_modN (pe_op op_add (pv 5) (pv 9)) pe_int) (fun _ _ => rfl))))))))))), ?_⟩
    refine ⟨⟨_, rfl⟩, _, rfl, b, c, 6, rfl, B, by omega, by decide, by decide, fun m H1 m0 m1 B1 k1 => ⟨m, rfl, by omega, by omega, fun D hD => ?_⟩⟩
    have nD : D ≠ b := (B1.ne hD).symm
    refine lc_range (fun i H' => ∃ ys : List Str, ys.length = i ∧ (∀ p ∈ ys, ∃ ch ∈ LET.cps.toList, p = ⟨#[ch]⟩) ∧ H' D = some (.lst (ys.map V.str)) ∧ BoxAt H' b (c + 1 + i) ∧ But b H H')
      ⟨[], rfl, (fun p hp => by cases hp), upd_same, (B1.new hD).mono (by omega), k1.new hD⟩ ?_ ?_
    · rintro i H2 hi ⟨ys, hl, hy, hD2, B2, k2⟩
      have hi5 : i < 5 := by omega
      refine ⟨rfl, _, rfl, _, rfl, b, c + 1 + i, 26, rfl, B2, by omega, by decide, by decide, fun d H3 d0 d1 B3 k3 => ?_⟩
      refine ⟨LET, d, chr d.toNat, rfl, rfl, by decide +kernel, at_chr d0 d1, ys.map V.str, k3 _ _ hD2 nD, ?_, ys ++ [⟨#[chr d.toNat]⟩], ?_, ?_, ?_, ?_, ?_⟩
      · rw [List.length_map]
        exact small1000 (by omega)
      · rw [List.length_append, hl] <;> rfl
      · intro p hp
        rcases List.mem_append.mp hp with z | z
        · exact hy p z
        · exact ⟨chr d.toNat, chr_mem (by omega), List.mem_singleton.mp z⟩
      · rw [upd_same, List.map_append] <;> rfl
      · exact (B3.oth nD.symm).mono (by omega)
      · exact (k2.trans k3).loc (k1.free nD hD)
    rintro H2 ⟨ys, hl, hy, hD2, B2, k2⟩
    have hl5 : ys.length ≤ 5 := by omega
    refine ⟨_, D, ys, rfl, rfl, .inl (.of hD2), ?_, ?_⟩
    · rw [one_sum hy]
      show ys.length + ys.length * 0 ≤ 16777216
      omega
    obtain ⟨j1, j2⟩ := join_ok (Str.ofString "") rfl ys hy
    generalize Txt.join (Str.ofString "") ys = st at j1 j2 ⊢
    rw [hl] at j1
    have hs5 : st.length ≤ 5 := by omega
    have hs6 : st.length ≤ sizeLine := small_le hs5 (by decide)
    refine ⟨_, rfl, _, rfl, st, rfl, hs6, _, 1, rfl, rfl, b, _, _, rfl, B2, by omega, by omega, by omega, fun pl H3 p0 p1 B3 k3 => ?_⟩
    refine ⟨_, rfl, b, _, 26, rfl, B3, by omega, by decide, by decide, fun sh H4 s0 s1 B4 k4 => ?_⟩
    refine ⟨(by show 3 ≤ sizeLine; decide), fun pt nt => ?_⟩
    have k5 : But b H (upd H4 pt (.lst [.str (Str.ofString ""), .str (Str.ofString "z"), .str (Str.ofString "aa")])) := ((k2.trans k3).trans k4).new nt
    have B5 := B4.new (o := .lst [.str (Str.ofString ""), .str (Str.ofString "z"), .str (Str.ofString "aa")]) nt
    have e5 : upd H4 pt (.lst [.str (Str.ofString ""), .str (Str.ofString "z"), .str (Str.ofString "aa")]) pt = some (.lst [.str (Str.ofString ""), .str (Str.ofString "z"), .str (Str.ofString "aa")]) := upd_same
    show tSeq _ _ _ _ (upd H4 pt (.lst [.str (Str.ofString ""), .str (Str.ofString "z"), .str (Str.ofString "aa")]))
    generalize upd H4 pt (.lst [.str (Str.ofString ""), .str (Str.ofString "z"), .str (Str.ofString "aa")]) = H5 at k5 B5 e5 ⊢
    refine ⟨_, rfl, 7, rfl, by decide, by decide, fun D2 n2 => ?_⟩
    have nD2 : D2 ≠ b := (B5.ne n2).symm
    refine lc_range (fun i H' => Same H5 H' ∧ H' D2 = some (.lst (((List.range i).map fun k => someN st pl sh (k : Nat)).map V.str))) ⟨same_new n2, upd_same⟩ ?_ ?_
    · rintro i H6 hi ⟨s6, d6⟩
      have hi7 : i < 7 := hi
      have ea : atI LET.cps.toList ((sh + 7 * (0 + (i : Int))).fmod 26) = some (chr (chI sh i)) := by
        rw [Int.zero_add]
        exact at_chr (fmod_lo (by decide)) (fmod_hi (by decide))
      have l1 : (cutS st none (some pl)).length ≤ 5 := Nat.le_trans (cutS_length _ _ _) hs5
      have l2 : (cutS st (some pl) none).length ≤ 5 := Nat.le_trans (cutS_length _ _ _) hs5
      refine ⟨rfl, _, rfl, _, rfl, pl, rfl, st, rfl, hs6, _, rfl, _, rfl, _, rfl, 7, _, rfl, rfl, .inl ⟨by decide, by omega⟩, sh, _, rfl, rfl, _, 26, rfl, rfl, (by show (26 : Int) ≠ 0; decide), LET, _, _, rfl, rfl, by decide +kernel, ea,
        _, _, rfl, rfl, small_le (m := 10) (by show (cutS st none (some pl)).length + 1 ≤ 10; omega) (by decide), _, rfl, _, rfl, pl, rfl, st, rfl, hs6, _, _, rfl, rfl, ?_, _, d6, ?_, ?_, ?_⟩
      · refine small_le (m := 20) ?_ (by decide)
        rw [str_len_append]
        show (cutS st none (some pl)).length + 1 + (cutS st (some pl) none).length ≤ 20
        omega
      · rw [List.length_map, List.length_map, List.length_range]
        exact small1000 (by omega)
      · intro a o e
        rw [upd_ne (ne_of_none e n2)]
        exact s6 a o e
      · rw [upd_same, List.range_succ, List.map_append, List.map_append] <;> rfl
    rintro H6 ⟨s6, d6⟩
    have d6' : H6 D2 = some (.lst (((List.range 7).map fun k => someN st pl sh (k : Nat)).map V.str)) := d6
    have t6 := s6 _ _ e5
    have k6 : But b H H6 := fun a o e n => s6 _ _ (k5 a o e n)
    have B6 := B5.at_ (H' := H6) fun o e => s6 _ _ e
    refine ⟨_, rfl, 7, rfl, by decide, by decide, fun D3 n3 => ?_⟩
    have nD3 : D3 ≠ b := (B6.ne n3).symm
    refine lc_range (fun i H' => Same H6 H' ∧ H' D3 = some (.lst (((List.range i).map (nmK st pl sh)).map V.str))) ⟨same_new n3, upd_same⟩ ?_ ?_
    · rintro i H7 hi ⟨s7, d7⟩
      have hi7 : i < 7 := hi
      have eb : atI (((List.range 7).map fun k => someN st pl sh (k : Nat)).map V.str) (0 + (i : Int)) = some (.str (someN st pl sh i)) := by
        rw [Int.zero_add]
        refine atI_nat ?_
        rw [List.getElem?_map, List.getElem?_map, List.getElem?_range hi7] <;> rfl
      have f0 : 0 ≤ (sh + i).fmod 3 := fmod_lo (by decide)
      have f1 : (sh + i).fmod 3 < 3 := fmod_hi (by decide)
      have ec : atI [V.str (Str.ofString ""), .str (Str.ofString "z"), .str (Str.ofString "aa")] ((sh + (0 + (i : Int))).fmod 3) = some (.str (tailI ((sh + i).fmod 3))) := by
        rw [Int.zero_add]
        generalize (sh + (i : Int)).fmod 3 = r at f0 f1
        rcases (by omega : r = 0 ∨ r = 1 ∨ r = 2) with rfl | rfl | rfl
        · exact a0
        · exact a1
        · exact a2
      have l1 := some_len st sh i p0
      have l2 := (tail_ok ((sh + i).fmod 3)).1
      refine ⟨rfl, _, rfl, _, rfl, D2, _, _, _, rfl, rfl, .of (s7 _ _ d6'), eb, _, rfl, _, rfl, _, rfl, sh, _, rfl, rfl, _, 3, rfl, rfl, (by show (3 : Int) ≠ 0; decide), pt, _, _, _, rfl, rfl, .of (s7 _ _ t6), ec, _, _, rfl, rfl, small_le (m := 20) (by omega) (by decide), _, d7, ?_, ?_, ?_⟩
      · rw [List.length_map, List.length_map, List.length_range]
        exact small1000 (by omega)
      · intro a o e
        rw [upd_ne (ne_of_none e n3)]
        exact s7 a o e
      · rw [upd_same, List.range_succ, List.map_append, List.map_append] <;> rfl
    rintro H7 ⟨s7, d7⟩
    refine q D3 (nms st pl sh) H7 (k6.free nD3 n3) d7 (by unfold nms; rw [List.length_map, List.length_range]) (nms_nd p0) (nms_ok p0 hs5 j2) ((B6.at_ fun o e => s7 _ _ e).mono (by omega)) (fun a o e n => s7 _ _ (k6 a o e n))
end
end GA
namespace GA
set_option maxRecDepth 100000
set_option maxHeartbeats 4000000
open PySem PySem.Spec PyProof.Rows L2
/-! ### what the law's own defs keep -/
/-- all but the region, the box and tables is as it was, and out of the region -/
def FrU (b : Addr) (R : Addr → Prop) (H : Hp) (R' : Addr → Prop) (H' : Hp) : Prop := ∀ a o, H a = some o → ¬ R a → a ≠ b → (∀ ps, o ≠ .tbl ps) → H' a = some o ∧ ¬ R' a
section
variable {b : Addr} {R R' R2 : Addr → Prop} {H H' H2 : Hp}
theorem FrU.refl : FrU b R H R H := fun _ _ h n _ _ => ⟨h, n⟩
theorem FrU.trans (f : FrU b R H R' H') (g : FrU b R' H' R2 H2) : FrU b R H R2 H2 := fun a o h n m t => let ⟨h1, n1⟩ := f a o h n m t; g a o h1 n1 m t
theorem FrU.same (s : Same H H') : FrU b R H R H' := fun a o h n _ _ => ⟨s a o h, n⟩
theorem FrU.but (k : But b H H') : FrU b R H R H' := fun a o h n m _ => ⟨k a o h m, n⟩
theorem FrU.frm (f : Frm R H R' H') : FrU b R H R' H' := fun a o h n _ _ => ⟨f.1 a o h n, fun z => by
  rcases f.2 a z with q | q
  · exact n q
  · rw [h] at q
    cases q⟩
theorem FrU.frt (f : FrT R H H') : FrU b R H R H' := fun a o h n _ t => ⟨f a o h n t, n⟩
theorem FrU.new {q : Addr} {o : HO} (f : FrU b R H R' H') (n : H' q = none) : FrU b R H R' (upd H' q o) := f.trans (.same (same_new n))
/-- an own object is written -/
theorem FrU.loc {q : Addr} {o : HO} (f : FrU b R H R' H') (n : H q = none) : FrU b R H R' (upd H' q o) := fun a u h r m t => by
  obtain ⟨h1, n1⟩ := f a u h r m t
  refine ⟨?_, n1⟩
  rw [upd_ne (ne_of_none h n)]
  exact h1
end
theorem BoxAt.ex {H : Hp} {b : Addr} {c : Int} (h : BoxAt H b c) : ∃ o, H b = some o ∧ plainO o := by
  obtain ⟨_, _, _, e, _⟩ := h
  exact ⟨_, e, True.intro⟩
theorem BoxAt.frm {H H' : Hp} {b : Addr} {c : Int} {R R' : Addr → Prop} (h : BoxAt H b c) (f : Frm R H R' H') (n : ¬ R b) : BoxAt H' b c ∧ ¬ R' b := by
  obtain ⟨o, e, _⟩ := h.ex
  refine ⟨h.at_ fun o' e' => f.1 _ _ e' n, fun z => ?_⟩
  rcases f.2 b z with q | q
  · exact n q
  · rw [e] at q
    cases q
def NP (H H' : Hp) : Prop := ∀ a o, H a = some o → ¬ plainO o → H' a = some o
theorem NP.but {H H' : Hp} {b : Addr} {c : Int} (B : BoxAt H b c) (k : But b H H') : NP H H' := fun a o e n => k a o e fun z => by
  obtain ⟨u, e', p⟩ := B.ex
  rw [z, e'] at e
  cases e
  exact n p
abbrev SS.es' (s : SS) (es : List Ent) : SS := { s with es := es }
/-! ### _law_others -/
def spOthers (CP CS : Addr) : Sp := fun vs H Q _ => ∃ (R : Addr → Prop) (s : SS) (b r : Addr) (c : Int) (ms : List Str) (q : Str) (P C g : Int), vs = [.ref b, .ref s.p, .ref r] ∧ Sh CP CS R H s ∧ ¬ R b ∧ BoxAt H b c ∧ c + 100 ≤ 2 ^ 40 ∧
  H r = some (.lst (ms.map V.str)) ∧ r ≠ b ∧ ms ≠ [] ∧ ms.length ≤ 100 ∧ q ∉ ms ∧ (∀ n ∈ ms, OkName n) ∧ s.L ≤ 60 ∧ WF s.L s.t s.es ∧ QI s.L s.t q P C g s.es ∧
  ∀ (R' : Addr → Prop) (es' : List Ent) (H' : Hp), Sh CP CS R' H' (s.es' es') → ¬ R' b → BoxAt H' b (c + 8) → FrU b R H R' H' → NP H H' → WF s.L s.t es' → QI s.L s.t q P C g es' → Q .non H'
section
variable {P : Program} {w : World} {K : PySem.W.Frag} {mg : Str → Option Value} {base : Heap} {CP CS : Addr}
abbrev NOth : List Str := ["_law_box_here", "_law_shares", "_law_names_here", "_law_name", "_law_there", "_law_way", "_law_free", "_law_promise", "_law_ceiling"]
theorem scOth : FnScope NOth ["_law_box_here", "_law_shares", "_law_names_here"] (defScope sLOthers) := ⟨rfl, rfl, rfl, by decide +kernel, rfl, by decide +kernel, by decide +kernel⟩
theorem ok_others {f : Addr} {fd : FuncData} (T : Txt K mg CP CS) (GT : GFn P w K mg base 1 "_law_take" ["_law_box_here", "_law_size"] spTake) (GS : GFn P w K mg base 2 "_law_share" ["_law_box_here", "_law_length_here", "_law_free"] spShare)
    (MN : MFn P w K mg base 1 CS "names" ["self"] (spNames CP CS)) (ML : MFn P w K mg base 1 CS "length" ["self"] (spLength CP CS)) (MP : MFn P w K mg base 1 CS "promised" ["self"] (spPromised CP CS)) (MQ : MFn P w K mg base 2 CS "promise" ["self", "name"] (spPromise CP CS))
    (MG : MFn P w K mg base 2 CS "go" ["self", "name"] (spGo CP CS)) (MC : MFn P w K mg base 3 CS "change" ["self", "name", "promise", "ceiling"] (spChange CP CS)) (MO : MFn P w K mg base 3 CS "come" ["self", "name", "promise", "ceiling"] (spCome CP CS))
    (F : FnP K "_law_others" "_law_others" sLOthers f fd) : FnOk P w K mg base CX0 4 f fd ["_law_box_here", "_law_shares", "_law_names_here"] (spOthers CP CS) := by
  refine fn_ok F scOth (fun vs H Q E h => ?_) (fun cdv A outer s0 H vs Q E hr h => ?_)
  · obtain ⟨R, s, b, r, c, ms, q, P, C, g, rfl, _⟩ := h
    rfl
  · obtain ⟨R, s, b, r, c, ms, q, P, C, g, rfl, S, nb, B, hc, hR, nrb, hms, hms2, hq, hok, hL, hWF, hQI, k⟩ := h
    refine ⟨_, pss_cons (ps_set (i := 3) scOth.nd rfl (Or.inl rfl) (pe_ix ix_list (pv 2) (gcall GT hr (by decide) (by rfl) (pa_cons (pv 0) (pa_cons (pe_callB call_len_seq (by rfl) T.len PySem.boot_len (pa_cons (pv 2) pa_nil)) pa_nil))) (fun _ _ => rfl)))
      (pss_cons (ps_set (i := 4) scOth.nd rfl (Or.inl rfl) (pe_cmpR op_in_seq (pv 3) (mcall0 MN hr (by decide) (pv 1) T.clS) (by rfl)))
      (pss_cons (ps_set (i := 5) scOth.nd rfl (Or.inl rfl) (gcall GT hr (by decide) (by rfl) (pa_cons (pv 0) (pa_cons pe_int pa_nil))))
      (C8.pss_cut (ps_set (i := 6) scOth.nd rfl (Or.inl rfl) (pe_op op_add (pe_op op_sub (mcall0 ML hr (by decide) (pv 1) T.clS) (mcall0 MP hr (by decide) (pv 1) T.clS)) (pe_ifExp (pt_val (pv 4)) (mcall MQ hr (by decide) (pv 1) T.clS (pa_cons (pv 3) pa_nil)) pe_int)))
      (pss_cons (ps_asg (gcall GS hr (by decide) (by rfl) (pa_cons (pv 0) (pa_cons (mcall0 ML hr (by decide) (pv 1) T.clS) (pa_cons (pv 6) pa_nil)))) (pg_tup rfl (pgs_cons (pg_name (i := 7) scOth.nd rfl (Or.inl rfl)) (pgs_cons (pg_name (i := 8) scOth.nd rfl (Or.inl rfl)) pgs_nil))))
      (pss_one (ps_if (PW.pt (pw_and (pt_val (pv 4)) (pw_and1 (pt_cmpR op_eq (pv 5) pe_int (nomark _)))))
        (pss_one (ps_expr (mcall MG hr (by decide) (pv 1) T.clS (pa_cons (pv 3) pa_nil))))
        (pss_one (ps_if (PW.pt (pw_and (pt_val (pv 4)) (pw_and1 (pt_cmpR op_eq (pv 5) pe_int (nomark _)))))
          (pss_one (ps_expr (mcall MC hr (by decide) (pv 1) T.clS (pa_cons (pv 3) (pa_cons (pv 7) (pa_cons (pv 8) pa_nil))))))
          (pss_one (ps_if (PW.pt (pw_and (pt_not (pt_val (pv 4))) (pw_and1 (pt_cmpR op_lt (pe_callB call_len_seq (by rfl) T.len PySem.boot_len (pa_cons (mcall0 MN hr (by decide) (pv 1) T.clS) pa_nil)) pe_int (nomark _)))))
            (pss_one (ps_expr (mcall MO hr (by decide) (pv 1) T.clS (pa_cons (pv 3) (pa_cons (pv 7) (pa_cons (pv 8) pa_nil)))))) pss_nil)))))))))), ?_⟩
    have ml : 1 ≤ (ms.map V.str).length := by
      rw [List.length_map]
      exact List.length_pos_iff.mpr hms
    have ml2 : (ms.map V.str).length ≤ 100 := by rw [List.length_map]; exact hms2
    refine ⟨_, rfl, _, rfl, _, rfl, r, ms.map V.str, rfl, .inl (.of hR), b, c, _, rfl, B, by omega, by omega, by omega, fun d H1 d0 d1 B1 k1 => ?_⟩
    obtain ⟨j, rfl⟩ := Int.eq_ofNat_of_zero_le d0
    have hj : j < ms.length := by rw [List.length_map] at d1; omega
    obtain ⟨nm, hnm⟩ : ∃ nm, nm = ms[j] := ⟨_, rfl⟩
    have hm : nm ∈ ms := by rw [hnm]; exact List.getElem_mem hj
    refine ⟨r, _, _, .str nm, rfl, rfl, .of (k1 _ _ hR nrb), atI_nat (by rw [List.getElem?_map, List.getElem?_eq_getElem hj, hnm] <;> rfl), ?_⟩
    have S1 : Sh CP CS R H1 s := S.keep fun a o hra e => k1 a o e fun z => nb (by rw [← z]; exact hra)
    -- there
    refine ⟨_, rfl, _, rfl, s.p, s.dx, _, rfl, S1.ob, sf_n10 _ _ _ _, R, s, rfl, S1, fun q2 n2 => ?_⟩
    refine ⟨q2, _, rfl, .inl (.of upd_same), rfl, flat_str _, ?_⟩
    have e1 : (if false = true then !inV (.str nm) ((namesOf s.es).map V.str) else inV (.str nm) ((namesOf s.es).map V.str)) = decide (nm ∈ namesOf s.es) := inV_str nm _
    rw [e1]
    have k2 : But b H (upd H1 q2 (.lst ((namesOf s.es).map V.str))) := k1.new n2
    have B2 : BoxAt (upd H1 q2 (.lst ((namesOf s.es).map V.str))) b (c + 1) := B1.new n2
    show tSeq _ _ _ _ (upd H1 q2 (.lst ((namesOf s.es).map V.str)))
    generalize upd H1 q2 (.lst ((namesOf s.es).map V.str)) = H2 at k2 B2 ⊢
    refine ⟨_, rfl, b, c + 1, 4, rfl, B2, by omega, by decide, by decide, fun wy H3 w0 w1 B3 k3' => ?_⟩
    have k3 := k2.trans k3'
    have S3 : Sh CP CS R H3 s := S.keep fun a o hra e => k3 a o e fun z => nb (by rw [← z]; exact hra)
    have hlen6 := hWF.len
    have hsm := hWF.sm
    obtain ⟨th, hth⟩ : ∃ th, th = decide (nm ∈ namesOf s.es) := ⟨_, rfl⟩
    rw [← hth]
    refine ⟨fun σ H' => ∃ fr : Int, σ = [some (.ref b), some (.ref s.p), some (.ref r), some (.str nm), some (.bl th), some (.int wy), some (.int fr), none, none] ∧ Same H3 H' ∧ 0 ≤ fr ∧
      (∀ (i : Nat) (e : Ent), s.es[i]? = some e → e.1 = nm → fr = s.L - tot s.es + e.2.2.tp) ∧ (nm ∉ namesOf s.es → fr = s.L - tot s.es), ?_, ?_⟩
    · refine ⟨_, rfl, s.p, s.dx, _, rfl, S3.ob, sf_n9 _ _ _ _, R, s, rfl, S3, ?_⟩
      refine ⟨_, rfl, s.p, s.dx, _, rfl, S3.ob, sf_n12 _ _ _ _, R, s, rfl, S3, by omega, fun H4 s4 => ⟨_, _, rfl, rfl, ?_⟩⟩
      have S4 := S3.same s4
      refine ⟨_, rfl, th, rfl, ?_⟩
      cases th with
      | true =>
        have hm2 : nm ∈ namesOf s.es := of_decide_eq_true hth.symm
        obtain ⟨i, e, hi, rfl⟩ := name_ix hm2
        refine iteT ⟨_, rfl, s.p, s.dx, _, rfl, S4.ob, sf_n11 _ _ _ _, _, rfl, R, s, i, e, rfl, S4, hi, _, _, rfl, rfl, ?_⟩
        have hp := (hWF.po i e hi).1
        refine ⟨_, rfl, s4, by omega, fun i' e' hi' he' => ?_, fun z => absurd hm2 z⟩
        have hii : i' = i := ix_name S.nd hi' hi he'
        subst hii
        rw [hi] at hi'
        cases hi'
        rfl
      | false =>
        have hm2 : nm ∉ namesOf s.es := of_decide_eq_false hth.symm
        refine iteF ⟨_, _, rfl, rfl, ?_⟩
        refine ⟨_, rfl, s4, by omega, fun i' e' hi' he' => absurd (by rw [← he']; exact ix_mem hi') hm2, fun _ => by omega⟩
    rintro σ H4 ⟨fr, rfl, s4, f0, f1, f2⟩
    have k4 : But b H H4 := fun a o e n => s4 _ _ (k3 a o e n)
    have B4 := B3.at_ (H' := H4) fun o e => s4 _ _ e
    have S4 := S3.same s4
    refine ⟨_, rfl, _, rfl, s.p, s.dx, _, rfl, S4.ob, sf_n9 _ _ _ _, R, s, rfl, S4, _, rfl, b, _, s.L, fr, rfl, B4, by omega, ?_, hL, f0, fun p P' C' H5 n5 e5 g0 g1 g2 g3 g4 B5 k5' => ?_⟩
    · have h1 := hWF.t0
      have h2 := hWF.tL
      omega
    have k5 := k4.trans k5'
    have S5 : Sh CP CS R H5 s := S.keep fun a o hra e => k5 a o e fun z => nb (by rw [← z]; exact hra)
    refine ⟨p, _, rfl, .of e5, rfl, _, _, rfl, _, _, rfl, rfl, ?_⟩
    have f5 : FrU b R H R H5 := .but k5
    have p5 : NP H H5 := .but B k5
    have pf : ∀ {H' H2 : Hp} {R' : Addr → Prop}, Sh CP CS R H' s → NP H H' → Frm R H' R' H2 → NP H H2 := fun S' p f a o e n => f.1 a o (p a o e n) fun hra => n (S'.plain hra o (p a o e n))
    have hLL : P' ≤ s.L := by omega
    have stay : Q .non H5 := k R s.es H5 S5 nb (B5.mono (by omega)) f5 p5 hWF hQI
    cases th with
    | true =>
      have hm2 : nm ∈ namesOf s.es := of_decide_eq_true hth.symm
      obtain ⟨i, e, hi, rfl⟩ := name_ix hm2
      have f1' := f1 i e hi rfl
      refine ⟨_, rfl, true, rfl, iteT ⟨_, rfl, rfl, _, rfl, ?_⟩⟩
      refine ite2 (fun hw => ?_) (fun hw => ?_)
      · refine ⟨_, rfl, s.p, s.dx, _, rfl, S5.ob, sf_n4 _ _ _ _, _, rfl, R, s, e.1, rfl, S5, hm2, fun H6 S6 f6 => ?_⟩
        obtain ⟨B6, nb6⟩ := B5.frm f6 nb
        exact k R _ H6 S6 nb6 (B6.mono (by omega)) (f5.trans (.frm f6)) (pf S5 p5 f6) (hWF.del e.1) (hQI.del fun z => hq (by rw [z]; exact hm))
      · refine ⟨_, rfl, true, rfl, iteT ⟨_, rfl, rfl, _, rfl, ?_⟩⟩
        refine ite2 (fun hw2 => ?_) (fun hw2 => ?_)
        · refine ⟨_, rfl, s.p, s.dx, _, rfl, S5.ob, sf_n5 _ _ _ _, _, rfl, _, rfl, _, rfl, R, s, i, e, P', C', rfl, S5, hi, by omega, g0, hLL, g3, g2, g4, by omega, fun H6 S6 f6 => ?_⟩
          obtain ⟨B6, nb6⟩ := B5.frm f6 nb
          have W6 := hWF.chg hi g0 g3 g2 g4 (by omega)
          exact k R _ H6 S6 nb6 (B6.mono (by omega)) (f5.trans (.frm f6)) (pf S5 p5 f6) W6 (hQI.chg W6 hi fun z => hq (by rw [← z]; exact hm))
        · exact ⟨_, rfl, true, rfl, iteF (iteF stay)⟩
    | false =>
      have hm2 : nm ∉ namesOf s.es := of_decide_eq_false hth.symm
      have f2' := f2 hm2
      refine ⟨_, rfl, false, rfl, iteF (iteF ⟨_, rfl, false, rfl, iteF (iteF ⟨_, rfl, false, rfl, iteT ?_⟩)⟩)⟩
      refine ⟨_, rfl, s.p, s.dx, _, rfl, S5.ob, sf_n10 _ _ _ _, R, s, rfl, S5, fun q6 n6 => ⟨q6, _, rfl, .inl (.of upd_same), _, 6, rfl, rfl, _, rfl, ?_⟩⟩
      have S6 := S5.same (same_new (o := .lst ((namesOf s.es).map V.str)) n6)
      have B6 := B5.new (o := .lst ((namesOf s.es).map V.str)) n6
      have f6 := f5.new (o := .lst ((namesOf s.es).map V.str)) n6
      have p6 : NP H (upd H5 q6 (.lst ((namesOf s.es).map V.str))) := fun a o e n => same_new n6 _ _ (p5 a o e n)
      refine ite2 (fun hw => ?_) (fun hw => ?_)
      · have hl6 : s.es.length < 6 := by
          have z := of_decide_eq_true hw
          unfold namesOf at z
          rw [List.length_map, List.length_map] at z
          omega
        refine ⟨_, rfl, s.p, s.dx, _, rfl, S6.ob, sf_n3 _ _ _ _, _, rfl, _, rfl, _, rfl, R, s, nm, P', C', rfl, S6, hok nm hm, hm2, hl6, g0, hLL, g3, g2, g4, by omega, fun R' H7 x S7 f7 => ?_⟩
        obtain ⟨B7, nb7⟩ := B6.frm f7 nb
        have W7 := hWF.add (x := x) hm2 hl6 g0 g3 g2 g4 (by omega)
        exact k R' _ H7 S7 nb7 (B7.mono (by omega)) (f6.trans (.frm f7)) (pf S6 p6 f7) W7 (hQI.add hWF W7 g0)
      · exact k R s.es _ S6 nb (B6.mono (by omega)) f6 p6 hWF hQI
end
end GA
namespace GA
set_option maxRecDepth 100000
set_option maxHeartbeats 4000000
open PySem PySem.Spec PyProof.Rows L2
/-! ### lists compared -/
def dI (ns : List Int) : PyData := .list (ns.map PyData.int)
def dS (ms : List Str) : PyData := .list (ms.map PyData.str)
theorem lay_ints : ∀ ns : List Int, PyData.canLayAll0 (ns.map PyData.int) = true
  | [] => by simp [PyData.canLayAll0]
  | z :: zs => by simp [PyData.canLayAll0, PyData.canLay0, lay_ints zs]
theorem dep_ints : ∀ ns : List Int, PyData.depthAll (ns.map PyData.int) ≤ 2
  | [] => by simp [PyData.depthAll]
  | z :: zs => by
    have h1 := dep_ints zs
    simp only [List.map_cons, PyData.depthAll, PyData.depth]
    omega
theorem lay_strs : ∀ ns : List Str, (∀ n ∈ ns, PyData.strOk n = true) → PyData.canLayAll0 (ns.map PyData.str) = true
  | [], _ => by simp [PyData.canLayAll0]
  | z :: zs, h => by simp [PyData.canLayAll0, PyData.canLay0, h z List.mem_cons_self, lay_strs zs fun n hn => h n (List.mem_cons_of_mem _ hn)]
theorem dep_strs : ∀ ns : List Str, PyData.depthAll (ns.map PyData.str) ≤ 2
  | [] => by simp [PyData.depthAll]
  | z :: zs => by
    have h1 := dep_strs zs
    simp only [List.map_cons, PyData.depthAll, PyData.depth]
    omega
theorem shaped_ints (ns : List Int) : SeqAt.shaped (dI ns) = true := by
  have h1 := dep_ints ns
  have h2 : PyData.depth (dI ns) ≤ 64 := by
    unfold dI
    simp only [PyData.depth]
    omega
  show (PyData.canLay0 (dI ns) && decide (PyData.depth (dI ns) ≤ 64)) = true
  rw [Bool.and_eq_true]
  exact ⟨by unfold dI; simp only [PyData.canLay0]; exact lay_ints ns, decide_eq_true h2⟩
theorem let_ok : ∀ c ∈ LET.cps.toList, c < 0x110000 := by decide +kernel
theorem ok_strOk {n : Str} (h : OkName n) : PyData.strOk n = true := by
  unfold PyData.strOk
  rw [Array.all_eq_true']
  intro c hc
  exact decide_eq_true (let_ok c (h.2.2 c (Array.mem_toList_iff.mpr hc)))
theorem shaped_strs {ms : List Str} (h : ∀ n ∈ ms, OkName n) : SeqAt.shaped (dS ms) = true := by
  have h1 := dep_strs ms
  have h2 : PyData.depth (dS ms) ≤ 64 := by
    unfold dS
    simp only [PyData.depth]
    omega
  show (PyData.canLay0 (dS ms) && decide (PyData.depth (dS ms) ≤ 64)) = true
  rw [Bool.and_eq_true]
  exact ⟨by unfold dS; simp only [PyData.canLay0]; exact lay_strs ms fun n hn => ok_strOk (h n hn), decide_eq_true h2⟩
theorem dpall_ints {K : PySem.W.Frag} {H : Hp} : ∀ ns : List Int, DpAll K H (ns.map V.int) (ns.map PyData.int)
  | [] => .nil
  | z :: zs => .cons (.int z) (dpall_ints zs)
theorem dpall_strs {K : PySem.W.Frag} {H : Hp} : ∀ ns : List Str, DpAll K H (ns.map V.str) (ns.map PyData.str)
  | [] => .nil
  | z :: zs => .cons (.str z) (dpall_strs zs)
theorem dp_ints {K : PySem.W.Frag} {H : Hp} {a : Addr} {ns : List Int} (h : SqL K H a (ns.map V.int)) : Dp K H (.ref a) (dI ns) := .lst h (dpall_ints ns)
theorem dp_strs {K : PySem.W.Frag} {H : Hp} {a : Addr} {ns : List Str} (h : SqL K H a (ns.map V.str)) : Dp K H (.ref a) (dS ns) := .lst h (dpall_strs ns)
theorem eqv_ints (ns : List Int) : PyData.eqv (dI ns) (dI ns) = true := SeqAt.eqv_refl _ (SeqAt.canLay_of_shaped (shaped_ints ns))
theorem eqv_nil : ∀ ms : List Str, PyData.eqv (dS ms) (dS []) = decide (ms = [])
  | [] => by simp [dS, PyData.eqv, PyData.eqvAll]
  | z :: zs => by simp [dS, PyData.eqv, PyData.eqvAll]
/-! ### the turns one got -/
def gotN (q : Str) (new : List (Option Str)) (n : Nat) : List Int := ((List.range n).filter fun i => decide (new[i]? = some (some q))).map fun i : Nat => (i : Int)
def gotI (q : Str) (new : List (Option Str)) : List Int := gotN q new new.length
theorem gotN_succ (q : Str) (new : List (Option Str)) (n : Nat) : gotN q new (n + 1) = gotN q new n ++ (if new[n]? = some (some q) then [(n : Int)] else []) := by
  unfold gotN
  rw [List.range_succ, List.filter_append, List.map_append]
  congr 1
  by_cases h : new[n]? = some (some q)
  · rw [if_pos h, List.filter_cons_of_pos (by simp [h])] <;> rfl
  · rw [if_neg h, List.filter_cons_of_neg (by simp [h])] <;> rfl
theorem gotN_app (q : Str) (new : List (Option Str)) (b : Option Str) : ∀ n, n ≤ new.length → gotN q (new ++ [b]) n = gotN q new n
  | 0, _ => rfl
  | n + 1, h => by
    rw [gotN_succ, gotN_succ, gotN_app q new b n (by omega), List.getElem?_append_left (by omega)]
theorem gotI_snoc (q : Str) (new : List (Option Str)) (b : Option Str) : gotI q (new ++ [b]) = gotI q new ++ (if b = some q then [(new.length : Int)] else []) := by
  unfold gotI
  rw [List.length_append, List.length_singleton, gotN_succ, gotN_app q new b _ (Nat.le_refl _), List.getElem?_concat_length]
  by_cases h : b = some q
  · rw [if_pos h, if_pos (by rw [h])]
  · rw [if_neg h, if_neg (fun z => h (Option.some.inj z))]
theorem gotN_len (q : Str) (new : List (Option Str)) (n : Nat) : (gotN q new n).length ≤ n := by
  unfold gotN
  rw [List.length_map]
  exact Nat.le_trans (List.length_filter_le _ _) (by rw [List.length_range] <;> omega)
theorem gotI_mem {q : Str} {new : List (Option Str)} {x : Int} (h : x ∈ gotI q new) : 0 ≤ x ∧ x < new.length := by
  unfold gotI gotN at h
  obtain ⟨i, hi, rfl⟩ := List.mem_map.mp h
  have := List.mem_range.mp (List.mem_filter.mp hi).1
  omega
/-! ### the gaps -/
structure GapI (L : Int) (k : Nat) (w : List Int) : Prop where
  ad : ∀ (j : Nat) (x y : Int), w[j]? = some x → w[j + 1]? = some y → y - x < 2 * L
  z : k = 0 → w = []
  la : ∀ x, w.getLast? = some x → (k : Int) * L - L ≤ x
theorem GapI.nil (L : Int) : GapI L 0 [] := ⟨fun _ _ _ h => by simp at h, fun _ => rfl, fun _ h => by simp at h⟩
theorem GapI.step {L : Int} {k : Nat} {w row : List Int} (G : GapI L k w) (hr : ∀ t ∈ row, 0 ≤ t ∧ t < L) (hn : row ≠ []) : GapI L (k + 1) (w ++ row.map fun t => (k : Int) * L + t) := by
  have hk : ((k + 1 : Nat) : Int) * L - L = (k : Int) * L := by
    rw [Int.natCast_add, Int.add_mul]
    omega
  have hm : ∀ (j : Nat) (y : Int), (row.map fun t => (k : Int) * L + t)[j]? = some y → (k : Int) * L ≤ y ∧ y < (k : Int) * L + L := fun j y h => by
    obtain ⟨t, ht, rfl⟩ := List.mem_map.mp (List.mem_of_getElem? h)
    have := hr t ht
    omega
  refine ⟨fun j x y hx hy => ?_, fun z => by omega, fun x hx => ?_⟩
  · by_cases c1 : j + 1 < w.length
    · rw [List.getElem?_append_left (by omega)] at hx
      rw [List.getElem?_append_left c1] at hy
      exact G.ad j x y hx hy
    · rw [List.getElem?_append_right (by omega)] at hy
      have hy' := hm _ _ hy
      by_cases c2 : j < w.length
      · rw [List.getElem?_append_left c2] at hx
        have := G.la x (by rw [List.getLast?_eq_getElem?, show w.length - 1 = j by omega]; exact hx)
        omega
      · rw [List.getElem?_append_right (by omega)] at hx
        have hx' := hm _ _ hx
        omega
  · rw [hk]
    have hn' : (row.map fun t => (k : Int) * L + t) ≠ [] := by simpa using hn
    rw [List.getLast?_append] at hx
    cases e : (row.map fun t => (k : Int) * L + t).getLast? with
    | none => exact absurd (List.getLast?_eq_none_iff.mp e) hn'
    | some y =>
      rw [e] at hx
      have z : y = x := Option.some.inj hx
      rw [List.getLast?_eq_getElem?, z] at e
      exact (hm _ _ e).1
end GA
namespace GA
set_option maxRecDepth 100000
set_option maxHeartbeats 4000000
open PySem PySem.Spec PyProof.Rows L2 LamX
/-! ### _law_got -/
abbrev SS.at_ (s : SS) (t : Int) (es : List Ent) (new : List (Option Str)) : SS := { s with t := t, es := es, dl := s.dl ++ new.map ov }
def spGot (CP CS Pt : Addr) : Sp := fun vs H Q _ => ∃ (R : Addr → Prop) (s : SS) (b r : Addr) (c m : Int) (ms : List Str) (q : Str) (P C : Int), vs = [.ref b, .ref s.p, .str q, .ref r, .int m] ∧ Sh CP CS R H s ∧ ¬ R b ∧ BoxAt H b c ∧ c + 10000 ≤ 2 ^ 40 ∧
  H r = some (.lst (ms.map V.str)) ∧ ¬ R r ∧ r ≠ b ∧ ms.length ≤ 100 ∧ q ∉ ms ∧ (∀ n ∈ ms, OkName n) ∧ 1 ≤ m ∧ m < 1073741824 ∧ s.L ≤ 60 ∧ s.t = 0 ∧ s.dl.length ≤ 5000 ∧ 1 ≤ C ∧ WF s.L 0 s.es ∧ QI s.L 0 q P C 0 s.es ∧ (ms = [] → s.es.length = 1) ∧ Tabs (TL Pt) H ∧
  ∀ (R' : Addr → Prop) (es' : List Ent) (new : List (Option Str)) (a : Addr) (H' : Hp), H a = none → H' a = some (.lst ((gotI q new).map V.int)) → Sh CP CS R' H' (s.at_ 0 es' new) → ¬ R' b → ¬ R' a → BoxAt H' b (c + 1000) → FrU b R H R' H' → Tabs (TL Pt) H' →
    WF s.L 0 es' → QI s.L 0 q P C 0 es' → (new.length : Int) = s.L → P ≤ (gotI q new).length → ((gotI q new).length : Int) ≤ C → (ms = [] → es'.length = 1 ∧ ((gotI q new).length : Int) = C) → Q (.ref a) H'
theorem got_len (q : Str) (new : List (Option Str)) (b : Option Str) : ((gotI q (new ++ [b])).length : Int) = gNew q (gotI q new).length b := by
  rw [gotI_snoc]
  unfold gNew
  by_cases h : b = some q
  · rw [if_pos h, if_pos h, List.length_append] <;> rfl
  · rw [if_neg h, if_neg h, List.append_nil]
/-- after i turns -/
structure GotSt (CP CS Pt : Addr) (s : SS) (q : Str) (P C : Int) (al : Prop) (b a : Addr) (c : Int) (R : Addr → Prop) (H : Hp) (i : Nat) (H' : Hp) (R' : Addr → Prop) (es : List Ent) (new : List (Option Str)) : Prop where
  len : new.length = i
  ga : H' a = some (.lst ((gotI q new).map V.int))
  sh : Sh CP CS R' H' (s.at_ (if (i : Int) = s.L then 0 else i) es new)
  nb : ¬ R' b
  na : ¬ R' a
  bx : BoxAt H' b (c + 16 * i)
  fr : FrU b R H R' H'
  tb : Tabs (TL Pt) H'
  wf : WF s.L (if (i : Int) = s.L then 0 else i) es
  qi : QI s.L (if (i : Int) = s.L then 0 else i) q P C (if (i : Int) = s.L then 0 else (gotI q new).length) es
  le : ((gotI q new).length : Int) ≤ C
  ge : (i : Int) = s.L → P ≤ (gotI q new).length
  al : al → es.length = 1 ∧ ((i : Int) ≤ (gotI q new).length ∨ C ≤ (gotI q new).length)
section
variable {P : Program} {w : World} {K : PySem.W.Frag} {mg : Str → Option Value} {base : Heap} {CP CS : Addr}
abbrev NGot : List Str := ["_law_box_here", "_law_shares", "_law_quiet", "_law_names_here", "_law_noisy", "_law_got_here", "_law_turn", "_law_ready", "_law_name"]
theorem scGot : FnScope NGot ["_law_box_here", "_law_shares", "_law_quiet", "_law_names_here", "_law_noisy"] (defScope sLGot) := ⟨rfl, rfl, rfl, by decide +kernel, rfl, by decide +kernel, by decide +kernel⟩
theorem ok_got {f Pt : Addr} {fd : FuncData} (T : Txt K mg CP CS) (GT : GFn P w K mg base 1 "_law_take" ["_law_box_here", "_law_size"] spTake) (GO : GFn P w K mg base 4 "_law_others" ["_law_box_here", "_law_shares", "_law_names_here"] (spOthers CP CS))
    (MN : MFn P w K mg base 1 CS "names" ["self"] (spNames CP CS)) (ML : MFn P w K mg base 1 CS "length" ["self"] (spLength CP CS)) (MD : MFn P w K mg base 4 CS "deal" ["self", "ready"] (spDeal CP CS Pt))
    (F : FnP K "_law_got" "_law_got" sLGot f fd) : FnOk P w K mg base CX0 5 f fd ["_law_box_here", "_law_shares", "_law_quiet", "_law_names_here", "_law_noisy"] (spGot CP CS Pt) := by
  refine fn_ok F scGot (fun vs H Q E h => ?_) (fun cdv A outer s0 H vs Q E hr h => ?_)
  · obtain ⟨R, s, b, r, c, m, ms, q, P, C, rfl, _⟩ := h
    rfl
  · obtain ⟨R, s, b, r, c, m, ms, q, P, C, rfl, S, nb, B, hc, hR, nrR, nrb, hms2, hq, hok, m1, m2, hL, ht, hdl, hC, hWF, hQI, hal, hT, k⟩ := h
    refine ⟨_, pss_cons (ps_set (i := 5) scGot.nd rfl (Or.inl rfl) (pe_lst pa_nil))
      (pss_cons (ps_for PassesOwn.never rfl (pi_range1 (by rfl) T.range (pa_cons (mcall0 ML hr (by decide) (pv 1) T.clS) pa_nil)) (pg_name (i := 6) scGot.nd rfl (Or.inl rfl))
        (C8.pss_cut (ps_if (PW.pt (pw_and (pt_cmpR (op_neD hr.units) (pv 3) (pe_lst pa_nil) (nomark _)) (pw_and1 (pt_cmpR op_eq (gcall GT hr (by decide) (by rfl) (pa_cons (pv 0) (pa_cons (pv 4) pa_nil))) pe_int (nomark _)))))
          (pss_one (ps_expr (gcall GO hr (by decide) (by rfl) (pa_cons (pv 0) (pa_cons (pv 1) (pa_cons (pv 3) pa_nil)))))) pss_nil)
        (pss_cons (ps_setLc (i := 7) (own := [("_law_name", 8)]) (g := gName 8) (te := tVar 8) rfl scGot.nd rfl rfl (sw_true rfl rfl rfl (by decide +kernel)) (pi_list (mcall0 MN hr (by decide) (pv 1) T.clS)) (blkOk_by (N := NGot) (sc := defScope sLGot) (by decide +kernel))
          (fun _ _ _ _ _ => pg_name (i := 8) scGot.nd rfl (Or.inl rfl))
          (fun _ _ _ _ _ => pts_one (PW.pt (pw_or (pt_cmpR op_eq (pv 8) (pv 2) (nomark _)) (pw_or1 (pt_cmpR op_gt (gcall GT hr (by decide) (by rfl) (pa_cons (pv 0) (pa_cons pe_int pa_nil))) pe_int (nomark _))))))
          (fun _ _ _ _ _ => pv 8))
        (pss_one (ps_if (pt_cmpR op_eq (mcall MD hr (by decide) (pv 1) T.clS (pa_cons (pv 7) pa_nil)) (pv 2) (nomark _))
          (pss_one (ps_expr (pe_bm PySem.F.plainAttrs_list PySem.F.slot_list_append PySem.F.type_list_append mt_append (pv 5) (pa_cons (pv 6) pa_nil)))) pss_nil)))))
      (pss_one (ps_ret (pv 5)))), ?_⟩
    refine ⟨(by show 0 ≤ sizeLine; decide), fun a na0 => ?_⟩
    have SA : Sh CP CS R (upd H a (.lst [])) s := S.same (same_new na0)
    have hL1 := hWF.tL
    refine ⟨_, rfl, s.p, s.dx, _, rfl, SA.ob, sf_n9 _ _ _ _, R, s, rfl, SA, s.L, rfl, by omega, by omega, ?_⟩
    have nra : ¬ R a := fun z => by
      obtain ⟨o, e, _⟩ := S.dom a z
      rw [na0] at e
      cases e
    have st0 : GotSt CP CS Pt s q P C (ms = []) b a c R H 0 (upd H a (.lst [])) R s.es [] := by
      have e0 : (if (((0 : Nat) : Int)) = s.L then (0 : Int) else ((0 : Nat) : Int)) = 0 := by split <;> rfl
      have e1 : (if (((0 : Nat) : Int)) = s.L then (0 : Int) else ((gotI q []).length : Int)) = 0 := by split <;> rfl
      refine ⟨rfl, upd_same, ?_, nb, nra, (B.new na0).mono (by omega), FrU.refl.new na0, tabs_keep hT fun a o e _ => same_new na0 _ _ e, ?_, ?_, by show (0 : Int) ≤ C; omega, fun z => by omega, fun z => ⟨hal z, .inl (Int.le_refl _)⟩⟩
      · rw [e0]
        have es0 : s.at_ 0 s.es [] = s := by
          obtain ⟨p, dx, d, l, L, t, es, dl⟩ := s
          have ht' : t = 0 := ht
          subst ht'
          show ({ p := p, dx := dx, d := d, l := l, L := L, t := 0, es := es, dl := dl ++ [] } : SS) = _
          rw [List.append_nil]
        rw [es0]
        exact SA
      · rw [e0]
        exact hWF
      · rw [e0, e1]
        exact hQI
    refine for_range (fun i σ H' => ∃ (R' : Addr → Prop) (es : List Ent) (new : List (Option Str)) (v6 v7 : Option V), σ = [some (.ref b), some (.ref s.p), some (.str q), some (.ref r), some (.int m), some (.ref a), v6, v7, none] ∧ GotSt CP CS Pt s q P C (ms = []) b a c R H i H' R' es new)
      ⟨R, s.es, [], none, none, rfl, st0⟩ ?_ ?_
    · rintro i σ H1 hi ⟨R1, es1, new, v6, v7, rfl, G⟩
      have hiL : (i : Int) < s.L := by omega
      have hne : ¬ (i : Int) = s.L := by omega
      have S1 := G.sh
      have W1 := G.wf
      have I1 := G.qi
      rw [if_neg hne] at S1 W1 I1
      rw [if_neg hne] at I1
      obtain ⟨r1, nr1⟩ := G.fr r _ hR nrR nrb (fun ps z => by cases z)
      have b1 := G.bx
      have nab : a ≠ b := (B.ne na0).symm
      -- one of the others, or not
      refine ⟨fun σ H2 => ∃ (R2 : Addr → Prop) (es2 : List Ent), σ = [some (.ref b), some (.ref s.p), some (.str q), some (.ref r), some (.int m), some (.ref a), some (.int (0 + i)), v7, none] ∧ Sh CP CS R2 H2 (s.at_ i es2 new) ∧ ¬ R2 b ∧ ¬ R2 a ∧ BoxAt H2 b (c + 16 * i + 9) ∧ FrU b R H R2 H2 ∧ Tabs (TL Pt) H2 ∧
        WF s.L i es2 ∧ QI s.L i q P C (gotI q new).length es2 ∧ H2 a = some (.lst ((gotI q new).map V.int)) ∧ (ms = [] → es2 = es1), ?_, ?_⟩
      · refine ⟨_, rfl, (by show 0 ≤ sizeLine; decide), fun t nt => ?_⟩
        have sT : Same H1 (upd H1 t (.lst [])) := same_new nt
        have rT := sT _ _ r1
        have BT := b1.new (o := .lst []) nt
        have fT := G.fr.new (o := .lst []) nt
        have TT : Tabs (TL Pt) (upd H1 t (.lst [])) := tabs_keep G.tb fun a o e _ => sT a o e
        have ST := S1.same sT
        have aT := sT _ _ G.ga
        have eT : upd H1 t (.lst []) t = some (.lst ([].map V.str)) := upd_same
        generalize upd H1 t (.lst []) = HT at sT rT BT fT TT ST aT eT ⊢
        refine ⟨dS ms, dS [], dp_strs (.of rT), dp_strs (.of eT), shaped_strs hok, shaped_strs (fun n hn => by cases hn), _, rfl, ?_⟩
        rw [eqv_nil]
        refine ite2 (fun hm => ?_) (fun hm => ?_)
        · have hms : ms ≠ [] := fun z => by
            rw [z] at hm
            simp at hm
          refine ⟨_, rfl, _, rfl, b, _, m, rfl, BT, by omega, m1, m2, fun d H2 d0 d1 B2 k2 => ⟨rfl, _, rfl, ?_⟩⟩
          have r2 := k2 _ _ rT nrb
          have S2 : Sh CP CS R1 H2 (s.at_ i es1 new) := ST.keep fun a o hra e => k2 a o e fun z => G.nb (by rw [← z]; exact hra)
          have a2 := k2 _ _ aT nab
          have T2 : Tabs (TL Pt) H2 := tabs_keep TT (NP.but BT k2)
          have f2 := fT.trans (.but k2)
          refine ite2 (fun hz => ?_) (fun hz => ?_)
          · refine ⟨_, rfl, _, rfl, _, rfl, R1, s.at_ i es1 new, b, r, _, ms, q, P, C, _, rfl, S2, G.nb, B2, by omega, r2, nrb, hms, hms2, hq, hok, hL, W1, I1, fun R3 es3 H3 S3 nb3 B3 f3 p3 W3 I3 => ?_⟩
            obtain ⟨a3, na3⟩ := f3 a _ a2 G.na nab (fun ps z => by cases z)
            exact ⟨R3, es3, rfl, S3, nb3, na3, B3.mono (by omega), f2.trans f3, tabs_keep T2 p3, W3, I3, a3, fun z => absurd z hms⟩
          · exact ⟨R1, es1, rfl, S2, G.nb, G.na, B2.mono (by omega), f2, T2, W1, I1, a2, fun _ => rfl⟩
        · exact ⟨R1, es1, rfl, ST, G.nb, G.na, BT.mono (by omega), fT, TT, W1, I1, aT, fun _ => rfl⟩
      rintro σ H2 ⟨R2, es2, rfl, S2, nb2, na2, B2, f2, T2, W2, I2, a2, al2⟩
      have hlen6 := W2.len
      -- ready
      refine ⟨_, rfl, s.p, s.dx, _, rfl, S2.ob, sf_n10 _ _ _ _, R2, s.at_ i es2 new, rfl, S2, fun y ny => ⟨y, rfl, ⟨_, .of upd_same⟩, fun D nD => ?_⟩⟩
      have B3 := B2.new (o := .lst ((namesOf es2).map V.str)) ny
      have S3 := S2.same (same_new (o := .lst ((namesOf es2).map V.str)) ny)
      have f3 := f2.new (o := .lst ((namesOf es2).map V.str)) ny
      have T3 : Tabs (TL Pt) (upd H2 y (.lst ((namesOf es2).map V.str))) := tabs_keep T2 fun a o e _ => same_new ny a o e
      have a3 := same_new (o := .lst ((namesOf es2).map V.str)) ny _ _ a2
      have y3 : upd H2 y (.lst ((namesOf es2).map V.str)) y = some (.lst ((namesOf es2).map V.str)) := upd_same
      have nyb : y ≠ b := (B2.ne ny).symm
      change upd H2 y (.lst ((namesOf es2).map V.str)) D = none at nD
      show ∃ W : Nat → Nat → Hp → Prop, (∃ m, W 0 m (upd (upd H2 y (.lst ((namesOf es2).map V.str))) D (.lst []))) ∧ _
      generalize upd H2 y (.lst ((namesOf es2).map V.str)) = H3 at B3 S3 f3 T3 a3 y3 nD ⊢
      have nDb : D ≠ b := (B3.ne nD).symm
      have nyD : y ≠ D := ne_of_none y3 nD
      refine lc_list (K := K) (a := y) (xs := (namesOf es2).map V.str) (fun j H' => ∃ ns : List Str, H' D = some (.lst (ns.map V.str)) ∧ ns.length ≤ j ∧ (∀ n ∈ ns, n ∈ namesOf es2) ∧ (∀ j' : Nat, j' < j → (namesOf es2)[j']? = some q → q ∈ ns) ∧ BoxAt H' b (c + 16 * i + 9 + j) ∧ But b H3 H')
        ⟨[], upd_same, Nat.le_refl _, (fun n hn => by cases hn), (fun j hj => absurd hj (Nat.not_lt_zero _)), (B3.new nD).mono (by omega), But.refl.new nD⟩ (fun j H' _ ⟨ns, _, _, _, _, _, k'⟩ => .of (k' _ _ y3 nyb)) ?_ ?_
      · rintro j x H4 hx ⟨ns, d4, l4, n4, q4, B4, k4⟩
        obtain ⟨nm, hnm, rfl⟩ : ∃ nm, (namesOf es2)[j]? = some nm ∧ x = V.str nm := by
          rw [List.getElem?_map] at hx
          cases e : (namesOf es2)[j]? with
          | none =>
            rw [e] at hx
            cases hx
          | some nm =>
            rw [e] at hx
            exact ⟨nm, rfl, (Option.some.inj hx).symm⟩
        have hj6 : j < 6 := by
          have z := (List.getElem?_eq_some_iff.mp hnm).1
          unfold namesOf at z
          rw [List.length_map] at z
          omega
        have hmem : nm ∈ namesOf es2 := List.mem_of_getElem? hnm
        have take_ : ∀ (H5 : Hp), H5 D = some (.lst (ns.map V.str)) → BoxAt H5 b (c + 16 * i + 9 + j + 1) → But b H3 H5 → (∃ acc, H5 D = some (.lst acc) ∧ acc.length < sizeLine ∧ ∃ ns' : List Str, (upd H5 D (.lst (acc ++ [.str nm]))) D = some (.lst (ns'.map V.str)) ∧ ns'.length ≤ j + 1 ∧ (∀ n ∈ ns', n ∈ namesOf es2) ∧ (∀ j' : Nat, j' < j + 1 → (namesOf es2)[j']? = some q → q ∈ ns') ∧ BoxAt (upd H5 D (.lst (acc ++ [.str nm]))) b (c + 16 * i + 9 + ((j + 1 : Nat) : Int)) ∧ But b H3 (upd H5 D (.lst (acc ++ [.str nm])))) := fun H5 d5 B5 k5 => by
          refine ⟨_, d5, ?_, ns ++ [nm], ?_, ?_, ?_, ?_, ?_, ?_⟩
          · rw [List.length_map]
            exact small1000 (by omega)
          · rw [upd_same, List.map_append] <;> rfl
          · rw [List.length_append, List.length_singleton]
            omega
          · intro n hn
            rcases List.mem_append.mp hn with z | z
            · exact n4 n z
            · rw [List.mem_singleton.mp z]
              exact hmem
          · intro j' hj' e
            by_cases z : j' = j
            · subst z
              rw [hnm] at e
              exact List.mem_append_right _ (List.mem_singleton.mpr (Option.some.inj e).symm)
            · exact List.mem_append_left _ (q4 j' (by omega) e)
          · exact (B5.oth nDb.symm).mono (by omega)
          · exact k5.loc nD
        refine ⟨rfl, _, rfl, _, rfl, rfl, _, rfl, ?_⟩
        refine ite2 (fun he => ?_) (fun he => ?_)
        · exact ⟨_, rfl, take_ H4 d4 (B4.mono (by omega)) k4⟩
        · refine ⟨_, rfl, b, _, 3, rfl, B4, by omega, by decide, by decide, fun d H5 d0 d1 B5 k5 => ⟨d, 0, rfl, rfl, _, rfl, ?_⟩⟩
          have d5 := k5 _ _ d4 nDb
          refine ite2 (fun hd => ?_) (fun hd => ?_)
          · exact ⟨_, rfl, take_ H5 d5 B5 (k4.trans k5)⟩
          · refine ⟨ns, d5, by omega, n4, fun j' hj' e => ?_, B5.mono (by omega), k4.trans k5⟩
            by_cases z : j' = j
            · subst z
              rw [hnm] at e
              exact absurd (decide_eq_true (by rw [Option.some.inj e])) he
            · exact q4 j' (by omega) e
      · rintro H4 ⟨ns, d4, l4, n4, q4, B4, k4⟩
        rw [List.length_map] at l4 q4 B4
        have hlen2 : (namesOf es2).length ≤ 6 := by
          unfold namesOf
          rw [List.length_map]
          exact hlen6
        have hqn : q ∈ ns := by
          obtain ⟨j, e, q1, q2, _⟩ := I2.at_
          have e1 : (namesOf es2)[j]? = some q := by
            unfold namesOf
            rw [List.getElem?_map, q1, ← q2] <;> rfl
          exact q4 j (List.getElem?_eq_some_iff.mp e1).1 e1
        have S4 : Sh CP CS R2 H4 (s.at_ i es2 new) := S3.keep fun a o hra e => k4 a o e fun z => nb2 (by rw [← z]; exact hra)
        have T4 : Tabs (TL Pt) H4 := tabs_keep T3 (NP.but B3 k4)
        have f4 := f3.trans (.but k4)
        have a4 := k4 _ _ a3 nab
        have hdl4 : (s.at_ i es2 new).dl.length ≤ 10000 := by
          show (s.dl ++ new.map ov).length ≤ 10000
          rw [List.length_append, List.length_map, G.len]
          omega
        refine ⟨_, rfl, s.p, s.dx, _, rfl, S4.ob, sf_n8 _ _ _ _, _, rfl, R2, s.at_ i es2 new, D, ns, rfl, S4, d4, T4, Nat.le_trans hlen6 (by decide), hdl4, W2.bnd hL, n4, fun bb es3 H5 hp hinc S5 f5 T5 => ?_⟩
        have hbn := f5
        obtain ⟨bo, be, bp⟩ := B4.ex
        have B5 : BoxAt H5 b (c + 16 * i + 9 + ((namesOf es2).length : Nat)) := B4.at_ fun o e => f5 b o e nb2 fun ps z => by
          rw [be] at e
          cases e
          rw [z] at bp
          exact bp
        have a5 := f5 a _ a4 na2 (fun ps z => by cases z)
        have f5' := f4.trans (.frt f5)
        have hg := gNew_le W2 I2 hp hinc
        have hgl := got_len q new bb
        have hC' : ((gotI q (new ++ [bb])).length : Int) ≤ C := by rw [hgl]; exact hg
        have hle := G.le
        -- the state after the turn
        obtain ⟨es4, t5, he4, t4, W5, I5, ge5, al5⟩ : ∃ (es4 : List Ent) (t4 : Int), aft (s.at_ i es2 new) es3 bb = s.at_ t4 es4 (new ++ [bb]) ∧ t4 = (if ((i + 1 : Nat) : Int) = s.L then 0 else ((i + 1 : Nat) : Int)) ∧ WF s.L t4 es4 ∧
            QI s.L t4 q P C (if ((i + 1 : Nat) : Int) = s.L then 0 else (gotI q (new ++ [bb])).length) es4 ∧ (((i + 1 : Nat) : Int) = s.L → P ≤ (gotI q (new ++ [bb])).length) ∧ (es2.length = 1 → es4.length = 1) := by
          by_cases z : ((i + 1 : Nat) : Int) = s.L
          · refine ⟨es3.map begE, 0, ?_, (if_pos z).symm, deal_WF0 W2 hp hinc, ?_, fun _ => ?_, fun h => ?_⟩
            · unfold aft
              rw [if_pos (show (s.at_ i es2 new).t + 1 = (s.at_ i es2 new).L from by show (i : Int) + 1 = s.L; omega)]
              show ({ s with t := 0, es := es3.map begE, dl := s.dl ++ new.map ov ++ [ov bb] } : SS) = { s with t := 0, es := es3.map begE, dl := s.dl ++ (new ++ [bb]).map ov }
              rw [List.map_append, List.append_assoc] <;> rfl
            · rw [if_pos z]
              exact deal_QI0 W2 I2 hp hinc
            · rw [hgl]
              exact deal_least W2 I2 hp hinc hqn (by omega)
            · rw [List.length_map, (inc_map hinc).2]
              exact h
          · refine ⟨es3, (i : Int) + 1, ?_, ?_, deal_WF W2 hp hinc (by omega), ?_, fun h => absurd h z, fun h => ?_⟩
            · unfold aft
              rw [if_neg (show ¬ (s.at_ i es2 new).t + 1 = (s.at_ i es2 new).L from by show ¬ (i : Int) + 1 = s.L; omega)]
              show ({ s with t := (i : Int) + 1, es := es3, dl := s.dl ++ new.map ov ++ [ov bb] } : SS) = { s with t := (i : Int) + 1, es := es3, dl := s.dl ++ (new ++ [bb]).map ov }
              rw [List.map_append, List.append_assoc] <;> rfl
            · rw [if_neg z]
              omega
            · rw [if_neg z, hgl]
              exact deal_QI W2 I2 hp hinc hqn
            · rw [(inc_map hinc).2]
              exact h
        rw [he4] at S5
        have al6 : ms = [] → es4.length = 1 ∧ (((i + 1 : Nat) : Int) ≤ (gotI q (new ++ [bb])).length ∨ C ≤ (gotI q (new ++ [bb])).length) := fun z => by
          obtain ⟨x1, x2⟩ := G.al z
          have y1 : es2.length = 1 := by rw [al2 z]; exact x1
          refine ⟨al5 y1, ?_⟩
          rw [hgl]
          exact deal_alone I2 hp hqn y1 x2
        have fin : ∀ (H6 : Hp) (v6 v7 : Option V), H6 a = some (.lst ((gotI q (new ++ [bb])).map V.int)) → Sh CP CS R2 H6 (s.at_ t5 es4 (new ++ [bb])) → BoxAt H6 b (c + 16 * i + 9 + ((namesOf es2).length : Nat)) → FrU b R H R2 H6 → Tabs (TL Pt) H6 →
            ∃ (R' : Addr → Prop) (es : List Ent) (new' : List (Option Str)) (w6 w7 : Option V), [some (V.ref b), some (.ref s.p), some (.str q), some (.ref r), some (.int m), some (.ref a), v6, v7, none] = [some (.ref b), some (.ref s.p), some (.str q), some (.ref r), some (.int m), some (.ref a), w6, w7, none] ∧
              GotSt CP CS Pt s q P C (ms = []) b a c R H (i + 1) H6 R' es new' := fun H6 v6 v7 a6 S6 B6 f6 T6 => by
          refine ⟨R2, es4, new ++ [bb], v6, v7, rfl, ?_, a6, ?_, nb2, na2, B6.mono (by omega), f6, T6, ?_, ?_, hC', ge5, al6⟩
          · rw [List.length_append, G.len] <;> rfl
          · rw [← t4]
            exact S6
          · rw [← t4]
            exact W5
          · rw [← t4]
            exact I5
        refine ⟨_, rfl, by cases bb <;> rfl, _, rfl, ?_⟩
        refine ite2 (fun hb => ?_) (fun hb => ?_)
        · have hbq : bb = some q := by
            have z := of_decide_eq_true hb
            cases bb with
            | none => cases z
            | some n => rw [V.str.inj z]
          refine ⟨_, rfl, .inl ⟨rfl, _, SqL.of a5⟩, _, rfl, a, _, _, rfl, rfl, a5, ?_, ?_⟩
          · rw [List.length_map]
            have z : (gotI q new).length ≤ new.length := gotN_len q new new.length
            rw [G.len] at z
            exact small1000 (by omega)
          · have nra6 : ∀ x, R2 x → x ≠ a := fun x hx z => na2 (by rw [← z]; exact hx)
            refine fin _ _ _ ?_ (S5.keep fun x o hx e => by rw [upd_ne (nra6 x hx)]; exact e) (B5.oth nab.symm) (f5'.loc na0) (tabs_upd T5 fun u e => ?_)
            · rw [upd_same, gotI_snoc, if_pos hbq, List.map_append, G.len]
              show some (HO.lst ((gotI q new).map V.int ++ [V.int (0 + (i : Int))])) = _
              rw [Int.zero_add] <;> rfl
            · rw [a5] at e
              cases e
              exact True.intro
        · have hbq : ¬ bb = some q := fun z => hb (by rw [z]; exact decide_eq_true rfl)
          refine fin _ _ _ ?_ S5 B5 f5' T5
          rw [gotI_snoc, if_neg hbq, List.append_nil]
          exact a5
    · rintro σ H1 ⟨R1, es1, new, v6, v7, rfl, G⟩
      have hn : ((s.L.toNat : Nat) : Int) = s.L := by omega
      have g1 := G.sh
      have g2 := G.wf
      have g3 := G.qi
      rw [if_pos hn] at g1 g2 g3
      rw [if_pos hn] at g3
      refine ⟨_, rfl, k R1 es1 new a H1 na0 G.ga g1 G.nb G.na (G.bx.mono (by omega)) G.fr G.tb g2 g3 (by rw [G.len]; exact hn) (G.ge hn) G.le fun z => ?_⟩
      obtain ⟨x1, x2⟩ := G.al z
      refine ⟨x1, ?_⟩
      have := G.le
      obtain ⟨i, e, q1, q2, q3⟩ := g3.at_
      have hCL := (g2.po i e q1).2.2.2.1
      rw [q3] at hCL
      have hCL' : C ≤ s.L := hCL
      rcases x2 with x | x <;> omega
end
end GA
namespace GA
set_option maxRecDepth 100000
set_option maxHeartbeats 4000000
open PySem PySem.Spec PyProof.Rows L2
/-! ### _law_gaps -/
/-- a list of lists of ints -/
def RowsAt (H : Hp) (a : Addr) (rs : List Addr) (rows : List (List Int)) : Prop := H a = some (.lst (rs.map V.ref)) ∧ rs.length = rows.length ∧ ∀ (i : Nat) (x : Addr) (row : List Int), rs[i]? = some x → rows[i]? = some row → H x = some (.lst (row.map V.int))
theorem RowsAt.keep {H H' : Hp} {a : Addr} {rs : List Addr} {rows : List (List Int)} (h : RowsAt H a rs rows) (k : ∀ b xs, H b = some (.lst xs) → b = a ∨ b ∈ rs → H' b = some (.lst xs)) : RowsAt H' a rs rows :=
  ⟨k _ _ h.1 (.inl rfl), h.2.1, fun i x row hx hr => k _ _ (h.2.2 i x row hx hr) (.inr (List.mem_of_getElem? hx))⟩
def spGaps : Sp := fun vs H Q _ => ∃ (L : Int) (a : Addr) (rs : List Addr) (rows : List (List Int)), vs = [.int L, .ref a] ∧ RowsAt H a rs rows ∧ rows.length ≤ 8 ∧ 1 ≤ L ∧ L ≤ 60 ∧ (∀ row ∈ rows, row ≠ [] ∧ row.length ≤ 60 ∧ ∀ t ∈ row, 0 ≤ t ∧ t < L) ∧ ∀ H', Same H H' → Q (.bl true) H'
section
variable {P : Program} {w : World} {K : PySem.W.Frag} {mg : Str → Option Value} {base : Heap} {CP CS : Addr}
abbrev NGap : List Str := ["_law_length_here", "_law_rows", "_law_whole", "_law_k", "_law_turn"]
theorem scGap : FnScope NGap ["_law_length_here", "_law_rows"] (defScope sLGaps) := ⟨rfl, rfl, rfl, by decide +kernel, rfl, by decide +kernel, by decide +kernel⟩
abbrev rSub : R2 := rI0 fun i j => .int (i - j)
theorem ok_gaps {f : Addr} {fd : FuncData} (T : Txt K mg CP CS) (F : FnP K "_law_gaps" "_law_gaps" sLGaps f fd) : FnOk P w K mg base CX0 1 f fd ["_law_length_here", "_law_rows"] spGaps := by
  refine fn_ok F scGap (fun vs H Q E h => ?_) (fun cdv A outer s0 H vs Q E hr h => ?_)
  · obtain ⟨L, a, rs, rows, rfl, _⟩ := h
    rfl
  · obtain ⟨L, a, rs, rows, rfl, hR, h8, hL1, hL2, hrow, k⟩ := h
    refine ⟨_, pss_cons (ps_set (i := 2) scGap.nd rfl (Or.inr rfl) (pe_lst pa_nil))
      (pss_cons (ps_for PassesOwn.never rfl (pi_range1 (by rfl) T.range (pa_cons (pe_callB call_len_seq (by rfl) T.len PySem.boot_len (pa_cons (pv 1) pa_nil)) pa_nil)) (pg_name (i := 3) scGap.nd rfl (Or.inr rfl))
        (pss_one (ps_set (i := 2) scGap.nd rfl (Or.inr rfl) (pe_op op_cat (pv 2) (pe_lc (own := [("_law_turn", 4)]) (g := gName 4) (tt := tYes) rfl scGap.nd (pi_list (pe_ix ix_list (pv 1) (pv 3) (fun _ _ => rfl))) (blkOk_by (N := NGap) (sc := defScope sLGaps) (by decide +kernel))
          (fun _ _ _ _ _ => pg_name (i := 4) scGap.nd rfl (Or.inl rfl)) (fun _ _ _ _ _ => pts_nil) (fun _ _ _ _ _ => pe_op op_add (pe_op op_mul (pv 3) (pv 0)) (pv 4)))))))
      (pss_one (ps_ret (pe_callB (cr_all rfl) (by rfl) T.all boot_all (pa_cons (pe_lc (own := [("_law_k", 3)]) (g := gName 3) (tt := tYes)
        (te := tOp (rI0 fun i j => V.bl (decide (i < j))) (tOp rSub (tOp (rIxL K) (tVar 2) (tVar 3)) (tOp (rIxL K) (tVar 2) (tOp rSub (tVar 3) (tC (.int 1))))) (tOp (rI CMul fun i j => .int (i * j)) (tC (.int 2)) (tVar 0))) rfl scGap.nd
        (pi_range2 (by rfl) T.range (pa_cons pe_int (pa_cons (pe_callB call_len_seq (by rfl) T.len PySem.boot_len (pa_cons (pv 2) pa_nil)) pa_nil))) (blkOk_by (N := NGap) (sc := defScope sLGaps) (by decide +kernel))
        (fun _ _ _ _ _ => pg_name (i := 3) scGap.nd rfl (Or.inl rfl)) (fun _ _ _ _ _ => pts_nil)
        (fun _ _ _ _ _ => pe_cmpR op_lt (pe_op op_sub (pe_ix ix_list (pv 2) (pv 3) (fun _ _ => rfl)) (pe_ix ix_list (pv 2) (pe_op op_sub (pv 3) pe_int) (fun _ _ => rfl))) (pe_op op_mul pe_int (pv 0)) (nomark _))) pa_nil))))), ?_⟩
    refine ⟨(by show 0 ≤ sizeLine; decide), fun W0 n0 => ?_⟩
    have s0' : Same H (upd H W0 (.lst [])) := same_new n0
    have ll : (rs.map V.ref).length = rows.length := by rw [List.length_map, hR.2.1]
    refine ⟨_, rfl, a, rs.map V.ref, rfl, .inl (.of (s0' _ _ hR.1)), _, rfl, by omega, by omega, ?_⟩
    refine for_range (fun i σ H' => ∃ (W : Addr) (wl : List Int) (v3 : Option V), σ = [some (.int L), some (.ref a), some (.ref W), v3, none] ∧ Same H H' ∧ H' W = some (.lst (wl.map V.int)) ∧ GapI L i wl ∧ wl.length ≤ 60 * i)
      ⟨W0, [], none, rfl, s0', upd_same, GapI.nil L, Nat.zero_le _⟩ ?_ ?_
    · rintro i σ H1 hi ⟨W, wl, v3, rfl, s1, hW, hG, hl⟩
      rw [Int.toNat_natCast, ll] at hi
      obtain ⟨x, hx⟩ : ∃ x, rs[i]? = some x := ⟨_, List.getElem?_eq_getElem (by rw [hR.2.1]; exact hi)⟩
      obtain ⟨row, hy⟩ : ∃ row, rows[i]? = some row := ⟨_, List.getElem?_eq_getElem hi⟩
      have hxr := s1 _ _ (hR.2.2 i x row hx hy)
      obtain ⟨r1, r2, r3⟩ := hrow row (List.mem_of_getElem? hy)
      have eat : atI (rs.map V.ref) (0 + (i : Int)) = some (.ref x) := by
        rw [Int.zero_add]
        exact atI_nat (by rw [List.getElem?_map, hx] <;> rfl)
      refine ⟨_, rfl, _, rfl, _, rfl, a, _, _, _, rfl, rfl, .of (s1 _ _ hR.1), eat, x, rfl, ⟨_, .of hxr⟩, fun D nD => ?_⟩
      refine lc_list (K := K) (a := x) (xs := row.map V.int) (fun j H' => Same H1 H' ∧ H' D = some (.lst (((row.take j).map fun t => (i : Int) * L + t).map V.int))) ⟨same_new nD, upd_same⟩ (fun j H' _ h' => .of (h'.1 _ _ hxr)) ?_ ?_
      · rintro j y H2 hy2 ⟨s2, d2⟩
        rw [List.getElem?_map] at hy2
        cases e : row[j]? with
        | none =>
          rw [e] at hy2
          cases hy2
        | some t =>
          rw [e] at hy2
          cases hy2
          obtain ⟨t0, t1⟩ := r3 t (List.mem_of_getElem? e)
          have hj := (List.getElem?_eq_some_iff.mp e).1
          refine ⟨rfl, _, rfl, _, rfl, _, L, rfl, rfl, .inl ⟨by omega, by omega⟩, _, rfl, _, t, rfl, rfl, _, d2, ?_, ?_, ?_⟩
          · rw [List.length_map, List.length_map, List.length_take]
            exact small1000 (by omega)
          · intro b o q
            rw [upd_ne (ne_of_none q nD)]
            exact s2 b o q
          · rw [upd_same, List.take_add_one, e, List.map_append, List.map_append, Int.zero_add] <;> rfl
      · rintro H2 ⟨s2, d2⟩
        rw [List.length_map, List.take_length] at d2
        refine ⟨W, D, _, _, rfl, rfl, s2 _ _ hW, d2, ?_, fun p np => ?_⟩
        · rw [List.length_map, List.length_map, List.length_map]
          exact small_le (m := 600) (by omega) (by decide)
        · refine ⟨p, wl ++ row.map fun t => (i : Int) * L + t, _, rfl, ?_, ?_, hG.step r3 r1, ?_⟩
          · intro b o q
            exact same_new np _ _ (s2 b o (s1 b o q))
          · rw [upd_same, List.map_append]
          · rw [List.length_append, List.length_map]
            omega
    · rintro σ H1 ⟨W, wl, v3, rfl, s1, hW, hG, hl⟩
      have lw : (wl.map V.int).length = wl.length := List.length_map ..
      have hl480 : wl.length ≤ 480 := by omega
      refine ⟨_, rfl, W, wl.map V.int, rfl, .inl (.of hW), 1, _, rfl, ⟨by omega, by omega, by omega, by omega⟩, fun D nD => ?_⟩
      refine lc_range (fun i H' => Same H1 H' ∧ H' D = some (.lst (List.replicate i (V.bl true)))) ⟨same_new nD, upd_same⟩ ?_ ?_
      · rintro i H2 hi ⟨s2, d2⟩
        have hi' : i + 1 < wl.length := by omega
        have g1 : wl[i + 1]? = some wl[i + 1] := List.getElem?_eq_getElem hi'
        have g0 : wl[i]? = some wl[i] := List.getElem?_eq_getElem (by omega)
        have hlt := hG.ad i _ _ g0 g1
        have e1 : atI (wl.map V.int) (1 + (i : Int)) = some (.int wl[i + 1]) := by
          rw [show (1 + (i : Int)) = ((i + 1 : Nat) : Int) by omega]
          exact atI_nat (by rw [List.getElem?_map, g1] <;> rfl)
        have e0 : atI (wl.map V.int) (1 + (i : Int) - 1) = some (.int wl[i]) := by
          rw [show (1 + (i : Int) - 1) = ((i : Nat) : Int) by omega]
          exact atI_nat (by rw [List.getElem?_map, g0] <;> rfl)
        refine ⟨rfl, _, rfl, _, rfl, W, _, _, _, rfl, rfl, .of (s2 _ _ hW), e1, _, rfl, _, rfl, _, 1, rfl, rfl, W, _, _, _, rfl, rfl, .of (s2 _ _ hW), e0, _, _, rfl, rfl, _, rfl, 2, L, rfl, rfl, .inl ⟨by decide, by omega⟩, _, _, rfl, rfl, _, d2, ?_, ?_, ?_⟩
        · rw [List.length_replicate]
          exact small1000 (by omega)
        · intro b o q
          rw [upd_ne (ne_of_none q nD)]
          exact s2 b o q
        · rw [upd_same, List.replicate_succ']
          show some (HO.lst (List.replicate i (V.bl true) ++ [V.bl (decide (wl[i + 1] - wl[i] < 2 * L))])) = _
          rw [decide_eq_true hlt]
      · rintro H2 ⟨s2, d2⟩
        refine ⟨D, List.replicate _ true, rfl, SqL.of (by rw [d2, List.map_replicate]), ?_⟩
        rw [all_true]
        exact k H2 fun b o q => s2 b o (s1 b o q)
end
end GA
namespace GA
set_option maxRecDepth 100000
set_option maxHeartbeats 4000000
open PySem PySem.Spec PyProof.Rows L2 LamX
/-! ### _law_kept -/
def GShares (P : Program) (w : World) (K : PySem.W.Frag) (mg : Str → Option Value) (base : Heap) (CP CS : Addr) : Prop :=
  ∃ (f : Addr) (fd : FuncData), FnOk P w K mg base CX0 3 f fd ["self", "length"] (spSInit CP CS) ∧ Mk K CS f ∧ Binds K fd ["self", "length"] []
theorem flat_at {α : Type} {n : Nat} : ∀ {news : List (List α)} {k t : Nat} {new : List α}, (∀ x ∈ news, x.length = n) → news[k]? = some new → t < n → news.flatten[k * n + t]? = new[t]?
  | [], k, t, new, _, h, _ => by simp at h
  | x :: r, 0, t, new, hl, h, ht => by
    have e : x = new := Option.some.inj h
    subst e
    rw [List.flatten_cons, Nat.zero_mul, Nat.zero_add, List.getElem?_append_left (by rw [hl x List.mem_cons_self]; exact ht)]
  | x :: r, k + 1, t, new, hl, h, ht => by
    have hx := hl x List.mem_cons_self
    have e : (k + 1) * n + t = x.length + (k * n + t) := by rw [hx, Nat.add_mul]; omega
    rw [List.flatten_cons, e, List.getElem?_append_right (by omega), Nat.add_sub_cancel_left]
    exact flat_at (fun y hy => hl y (List.mem_cons_of_mem _ hy)) h ht
theorem flat_len {α : Type} {n : Nat} : ∀ {news : List (List α)}, (∀ x ∈ news, x.length = n) → news.flatten.length = news.length * n
  | [], _ => by simp
  | x :: r, hl => by
    rw [List.flatten_cons, List.length_append, hl x List.mem_cons_self, flat_len (fun y hy => hl y (List.mem_cons_of_mem _ hy)), List.length_cons, Nat.add_mul]
    omega
abbrev SS.to (s : SS) (es : List Ent) (news : List (List (Option Str))) : SS := { s with t := 0, es := es, dl := news.flatten.map ov }
/-- after j stretches -/
structure KSt (CP CS Pt : Addr) (s : SS) (q : Str) (P C : Int) (ms : List Str) (b D : Addr) (c : Int) (R1 : Addr → Prop) (H1 : Hp) (j : Nat) (H' : Hp) (R' : Addr → Prop) (es : List Ent) (news : List (List (Option Str))) (rs : List Addr) : Prop where
  n1 : news.length = j
  n2 : rs.length = j
  nl : ∀ x ∈ news, x.length = s.L.toNat
  sh : Sh CP CS R' H' (s.to es news)
  nb : ¬ R' b
  nD : ¬ R' D
  hD : H' D = some (.lst (rs.map V.ref))
  rows : ∀ (i : Nat) (x : Addr) (new : List (Option Str)), rs[i]? = some x → news[i]? = some new → H' x = some (.lst ((gotI q new).map V.int)) ∧ ¬ R' x ∧ x ≠ b ∧ x ≠ D
  bx : BoxAt H' b (c + 1000 * j)
  fr : FrU b R1 H1 R' H'
  tb : Tabs (TL Pt) H'
  wf : WF s.L 0 es
  qi : QI s.L 0 q P C 0 es
  ok : ∀ new ∈ news, P ≤ (gotI q new).length ∧ ((gotI q new).length : Int) ≤ C ∧ (ms = [] → ((gotI q new).length : Int) = C)
  al : ms = [] → es.length = 1
def spKept (Pt : Addr) : Sp := fun vs H Q _ => ∃ (b sh r : Addr) (c L m P C : Int) (ms : List Str) (q : Str), vs = [.ref b, .int L, .ref sh, .str q, .ref r, .int m] ∧ BoxAt H b c ∧ c + 20000 ≤ 2 ^ 40 ∧ 4 ≤ L ∧ L ≤ 60 ∧ H sh = some (.tup [.int P, .int C]) ∧ 0 ≤ P ∧ P ≤ L ∧ P ≤ C ∧ 1 ≤ C ∧ C ≤ L ∧
  OkName q ∧ H r = some (.lst (ms.map V.str)) ∧ r ≠ b ∧ ms.length ≤ 6 ∧ q ∉ ms ∧ (∀ n ∈ ms, OkName n) ∧ 1 ≤ m ∧ m < 1073741824 ∧ Tabs (TL Pt) H ∧
  ∀ H', BoxAt H' b (c + 10000) → FrT (· = b) H H' → Tabs (TL Pt) H' → Q (.bl true) H'
section
variable {P : Program} {w : World} {K : PySem.W.Frag} {mg : Str → Option Value} {base : Heap} {CP CS : Addr}
abbrev NKep : List Str := ["_law_box_here", "_law_length_here", "_law_share_here", "_law_quiet", "_law_names_here", "_law_noisy", "_law_shares", "_law_rows", "_law_whole", "_law_k", "_law_row", "_law_turn"]
theorem scKep : FnScope NKep ["_law_box_here", "_law_length_here", "_law_share_here", "_law_quiet", "_law_names_here", "_law_noisy"] (defScope sLKept) := ⟨rfl, rfl, rfl, by decide +kernel, rfl, by decide +kernel, by decide +kernel⟩
theorem ok_kept {f Pt : Addr} {fd : FuncData} (T : Txt K mg CP CS) (GT : GFn P w K mg base 1 "_law_take" ["_law_box_here", "_law_size"] spTake) (GM : GShares P w K mg base CP CS)
    (MO : MFn P w K mg base 3 CS "come" ["self", "name", "promise", "ceiling"] (spCome CP CS)) (ME : MFn P w K mg base 1 CS "dealt" ["self"] (spDealt CP CS))
    (GG : GFn P w K mg base 5 "_law_got" ["_law_box_here", "_law_shares", "_law_quiet", "_law_names_here", "_law_noisy"] (spGot CP CS Pt)) (GA' : GFn P w K mg base 1 "_law_gaps" ["_law_length_here", "_law_rows"] spGaps)
    (F : FnP K "_law_kept" "_law_kept" sLKept f fd) : FnOk P w K mg base CX0 6 f fd ["_law_box_here", "_law_length_here", "_law_share_here", "_law_quiet", "_law_names_here", "_law_noisy"] (spKept Pt) := by
  obtain ⟨fS, fdS, okS, mkS, bS⟩ := GM
  refine fn_ok F scKep (fun vs H Q E h => ?_) (fun cdv A outer s0 H vs Q E hr h => ?_)
  · obtain ⟨b, sh, r, c, L, m, P, C, ms, q, rfl, _⟩ := h
    rfl
  · obtain ⟨b, sh, r, c, L, m, P, C, ms, q, rfl, B, hc, hL1, hL2, hsh, hP0, hPL, hPC, hC1, hCL, hqn, hR, nrb, hms, hq, hok, m1, m2, hT, k⟩ := h
    refine ⟨_, pss_cons (ps_set (i := 6) scKep.nd rfl (Or.inr rfl) (pe_make mkS okS (hr.mono (by decide)) (by rfl) T.mgS bS .nil pass0 (pa_cons (pv 1) pa_nil)))
      (C8.pss_cut (ps_if (PW.pt (pw_and (pt_cmpR op_eq (gcall GT hr (by decide) (by rfl) (pa_cons (pv 0) (pa_cons pe_int pa_nil))) pe_int (nomark _)) (pw_and1 (pt_cmpR (op_neD hr.units) (pv 4) (pe_lst pa_nil) (nomark _)))))
        (pss_one (ps_expr (mcall MO hr (by decide) (pv 6) T.clS (pa_cons (pe_ix ix_list (pv 4) pe_int (fun _ _ => rfl)) (pa_cons (pe_op op_sub (pv 1) (pe_ix ix_tup (pv 2) pe_int (fun _ _ => rfl))) (pa_cons (pv 1) pa_nil)))))) pss_nil)
      (pss_cons (ps_expr (mcall MO hr (by decide) (pv 6) T.clS (pa_cons (pv 3) (pa_cons (pe_ix ix_tup (pv 2) pe_int (fun _ _ => rfl)) (pa_cons (pe_ix ix_tup (pv 2) pe_int (fun _ _ => rfl)) pa_nil)))))
      (pss_cons (ps_setLc (i := 7) (own := [("_law_turn", 11)]) (g := gName 11) (tt := tYes) rfl scKep.nd rfl rfl (sw_true rfl rfl rfl (by decide +kernel)) (pi_range1 (by rfl) T.range (pa_cons pe_int pa_nil)) (blkOk_by (N := NKep) (sc := defScope sLKept) (by decide +kernel))
        (fun _ _ _ _ _ => pg_name (i := 11) scKep.nd rfl (Or.inl rfl)) (fun _ _ _ _ _ => pts_nil) (fun _ _ _ _ _ => gcall GG hr (by decide) (by rfl) (pa_cons (pv 0) (pa_cons (pv 6) (pa_cons (pv 3) (pa_cons (pv 4) (pa_cons (pv 5) pa_nil)))))))
      (pss_cons (ps_set (i := 8) scKep.nd rfl (Or.inr rfl) (mcall0 ME hr (by decide) (pv 6) T.clS))
      (pss_cons (ps_if (pt_cmpR op_ne (pe_callB call_len_seq (by rfl) T.len PySem.boot_len (pa_cons (pv 8) pa_nil)) (pe_op op_mul pe_int (pv 1)) (nomark _)) (pss_one (ps_ret pe_bl)) pss_nil)
      (pss_cons (ps_for PassesOwn.never rfl (pi_range1 (by rfl) T.range (pa_cons pe_int pa_nil)) (pg_name (i := 9) scKep.nd rfl (Or.inr rfl))
        (pss_one (ps_if (pt_cmpR (op_neD hr.units) (pe_lc (own := [("_law_turn", 11)]) (g := gName 11)
            (tt := tTest (tOp rEq (tOp (rIxL K) (tVar 8) (tOp (rI0 fun i j => .int (i + j)) (tOp (rI CMul fun i j => .int (i * j)) (tVar 9) (tVar 1)) (tVar 11))) (tVar 3))) (te := tVar 11) rfl scKep.nd
            (pi_range1 (by rfl) T.range (pa_cons (pv 1) pa_nil)) (blkOk_by (N := NKep) (sc := defScope sLKept) (by decide +kernel))
            (fun _ _ _ _ _ => pg_name (i := 11) scKep.nd rfl (Or.inl rfl)) (fun _ _ _ _ _ => pts_one (pt_cmpR op_eq (pe_ix ix_list (pv 8) (pe_op op_add (pe_op op_mul (pv 9) (pv 1)) (pv 11)) (fun _ _ => rfl)) (pv 3) (nomark _))) (fun _ _ _ _ _ => pv 11))
          (pe_ix ix_list (pv 7) (pv 9) (fun _ _ => rfl)) (nomark _)) (pss_one (ps_ret pe_bl)) pss_nil)))
      (pss_cons (ps_for PassesOwn.never rfl (pi_list (pv 7)) (pg_name (i := 10) scKep.nd rfl (Or.inl rfl))
        (pss_one (ps_if (PW.pt (pw_or (pt_not (pt_chain op_le op_le (pe_ix ix_tup (pv 2) pe_int (fun _ _ => rfl)) (pe_callB call_len_seq (by rfl) T.len PySem.boot_len (pa_cons (pv 10) pa_nil)) (pe_ix ix_tup (pv 2) pe_int (fun _ _ => rfl))))
          (pw_or1 (PW.pt (pw_and (pt_cmpR (op_eqD hr.units) (pv 4) (pe_lst pa_nil) (nomark _)) (pw_and1 (pt_cmpR op_ne (pe_callB call_len_seq (by rfl) T.len PySem.boot_len (pa_cons (pv 10) pa_nil)) (pe_ix ix_tup (pv 2) pe_int (fun _ _ => rfl)) (nomark _)))))))) (pss_one (ps_ret pe_bl)) pss_nil)))
      (pss_one (ps_ret (pe_or (pe_cmpR op_eq (pe_ix ix_tup (pv 2) pe_int (fun _ _ => rfl)) pe_int (nomark _)) (pe_one (gcall GA' hr (by decide) (by rfl) (pa_cons (pv 1) (pa_cons (pv 7) pa_nil)))))))))))))), ?_⟩
    refine ⟨_, rfl, fun x dx hx hdx hne => ⟨x, dx, L, rfl, upd_same, hL1, hL2, fun R1 d l H1 S1 k1 r1 => ⟨rfl, ?_⟩⟩⟩
    have same1 : Same H H1 := fun a o e => k1 a o (by rw [upd_ne (ne_of_none e hx), upd_ne (ne_of_none e hdx)]; exact e) (ne_of_none e hx)
    have nr1 : ∀ a o, H a = some o → ¬ R1 a := fun a o e z => by
      rcases r1 a z with z | z
      · exact ne_of_none e hx z
      · rw [upd_ne (ne_of_none e hx), upd_ne (ne_of_none e hdx)] at z
        rw [z] at e
        cases e
    obtain ⟨bo, be, bp⟩ := B.ex
    have B1 := B.at_ (H' := H1) fun o e => same1 _ _ e
    have W0 : WF L 0 [] := ⟨fun i e h => by simp at h, List.nodup_nil, by decide, by show (0 : Int) ≤ L; omega, fun _ i e h => by simp at h, Int.le_refl _, by omega⟩
    clear k1 r1
    -- the first of the others, or not
    refine ⟨fun σ H2 => ∃ (R2 : Addr → Prop) (es2 : List Ent), σ = [some (.ref b), some (.int L), some (.ref sh), some (.str q), some (.ref r), some (.int m), some (.ref x), none, none, none, none, none] ∧ Sh CP CS R2 H2 ⟨x, dx, d, l, L, 0, es2, []⟩ ∧ ¬ R2 b ∧ BoxAt H2 b (c + 1) ∧
      (∀ a o, H a = some o → a ≠ b → H2 a = some o ∧ ¬ R2 a) ∧ (ms = [] → es2 = []) ∧ es2.length ≤ 1 ∧ q ∉ namesOf es2 ∧ tot es2 + P ≤ L ∧ WF L 0 es2, ?_, ?_⟩
    · refine ⟨_, rfl, b, c, 2, rfl, B1, by omega, by decide, by decide, fun d0 H2 d1 d2 B2 k2 => ⟨rfl, _, rfl, ?_⟩⟩
      have kp2 : ∀ a o, H a = some o → a ≠ b → H2 a = some o ∧ ¬ R1 a := fun a o e n => ⟨k2 a o (same1 a o e) n, nr1 a o e⟩
      have nb2 := nr1 b bo be
      have S2e : Sh CP CS R1 H2 ⟨x, dx, d, l, L, 0, [], []⟩ := S1.keep fun a o hra e => k2 a o e fun z => nb2 (by rw [← z]; exact hra)
      have none_ : ∃ (R2 : Addr → Prop) (es2 : List Ent), [some (V.ref b), some (.int L), some (.ref sh), some (.str q), some (.ref r), some (.int m), some (.ref x), none, none, none, none, none] = [some (V.ref b), some (.int L), some (.ref sh), some (.str q), some (.ref r), some (.int m), some (.ref x), none, none, none, none, none] ∧ Sh CP CS R2 H2 ⟨x, dx, d, l, L, 0, es2, []⟩ ∧ ¬ R2 b ∧ BoxAt H2 b (c + 1) ∧
          (∀ a o, H a = some o → a ≠ b → H2 a = some o ∧ ¬ R2 a) ∧ (ms = [] → es2 = []) ∧ es2.length ≤ 1 ∧ q ∉ namesOf es2 ∧ tot es2 + P ≤ L ∧ WF L 0 es2 :=
        ⟨R1, [], rfl, S2e, nb2, B2, kp2, fun _ => rfl, by decide, (fun z => by cases z), by show 0 + P ≤ L; omega, W0⟩
      refine ite2 (fun hd => ?_) (fun hd => none_)
      refine ⟨_, rfl, (by show 0 ≤ sizeLine; decide), fun t nt => ?_⟩
      have sT : Same H2 (upd H2 t (.lst [])) := same_new nt
      have rT := sT _ _ (kp2 _ _ hR nrb).1
      have eT : upd H2 t (.lst []) t = some (.lst ([].map V.str)) := upd_same
      refine ⟨dS ms, dS [], dp_strs (.of rT), dp_strs (.of eT), shaped_strs hok, shaped_strs (fun n hn => by cases hn), _, rfl, ?_⟩
      rw [eqv_nil]
      have BT := B2.new (o := .lst []) nt
      have ST := S2e.same sT
      have kpT : ∀ a o, H a = some o → a ≠ b → upd H2 t (.lst []) a = some o ∧ ¬ R1 a := fun a o e n => ⟨sT _ _ (kp2 a o e n).1, (kp2 a o e n).2⟩
      generalize upd H2 t (.lst []) = HT at sT rT eT BT ST kpT ⊢
      refine ite2 (fun hm => ?_) (fun hm => ?_)
      · cases ms with
        | nil => simp at hm
        | cons n0 mt =>
          have hshT := (kpT _ _ hsh (by
            intro z
            rw [z] at hsh
            obtain ⟨_, _, _, e, _⟩ := B
            rw [hsh] at e
            cases e)).1
          refine ⟨_, rfl, x, dx, _, rfl, ST.ob, sf_n3 _ _ _ _, _, rfl, r, _, 0, .str n0, rfl, rfl, .of rT, atI_nat (j := 0) rfl, _, rfl, _, rfl, sh, _, 0, .int P, rfl, rfl, .of hshT, atI_nat (j := 0) rfl, L, P, rfl, rfl, _, rfl, ?_⟩
          refine ⟨R1, ⟨x, dx, d, l, L, 0, [], []⟩, n0, L - P, L, rfl, ST, hok n0 List.mem_cons_self, (fun z => by cases z), (by show 0 < 6; decide), by omega, ?_, by omega, by omega, Int.le_refl _, ?_, fun R3 H3 y S3 f3 => ?_⟩
          · show L - P ≤ L
            omega
          · show 0 + (L - P) ≤ L
            omega
          obtain ⟨B3, nb3⟩ := BT.frm f3 nb2
          have W3 := W0.add (n := n0) (x := y) (pr := L - P) (c := L) (fun z => by cases z) (by decide) (by omega) (by omega) (by omega) (Int.le_refl _) (by show 0 + (L - P) ≤ L; omega)
          refine ⟨R3, _, rfl, S3, nb3, B3, fun a o e n => ?_, (fun z => nomatch z), Nat.le_refl _, fun z => ?_, ?_, W3⟩
          · obtain ⟨e1, n1⟩ := kpT a o e n
            refine ⟨f3.1 a o e1 n1, fun z => ?_⟩
            rcases f3.2 a z with y | y
            · exact n1 y
            · rw [e1] at y
              cases y
          · have z' : q = n0 := List.mem_singleton.mp z
            exact hq (by rw [z']; exact List.mem_cons_self)
          · show (L - P + 0) + P ≤ L
            omega
      · have hm' : ms = [] := by
          by_cases z : ms = []
          · exact z
          · rw [decide_eq_false z] at hm
            exact absurd rfl hm
        exact ⟨R1, [], rfl, ST, nb2, BT, kpT, fun _ => rfl, by decide, (fun z => by cases z), by show 0 + P ≤ L; omega, W0⟩
    rintro σ H2 ⟨R2, es2, rfl, S2, nb2, B2, kp2, al2, le2, nq2, tot2, W2⟩
    have nsb : sh ≠ b := fun z => by
      rw [z, be] at hsh
      obtain ⟨_, _, _, e, _⟩ := B
      rw [be] at e
      rw [e] at hsh
      cases hsh
    have hsh2 := (kp2 _ _ hsh nsb).1
    -- the quiet one comes
    refine ⟨_, rfl, x, dx, _, rfl, S2.ob, sf_n3 _ _ _ _, _, rfl, _, rfl, sh, _, 0, .int P, rfl, rfl, .of hsh2, atI_nat (j := 0) rfl, _, rfl, sh, _, 1, .int C, rfl, rfl, .of hsh2, atI_nat (j := 1) rfl, ?_⟩
    refine ⟨R2, ⟨x, dx, d, l, L, 0, es2, []⟩, q, P, C, rfl, S2, hqn, nq2, (show es2.length < 6 by omega), hP0, hPL, hC1, hPC, hCL, tot2, fun R3 H3 y S3 f3 => ?_⟩
    obtain ⟨B3, nb3⟩ := B2.frm f3 nb2
    have W3 := W2.add (n := q) (x := y) (pr := P) (c := C) nq2 (by omega) hP0 hC1 hPC hCL tot2
    have kp3 : ∀ a o, H a = some o → a ≠ b → H3 a = some o ∧ ¬ R3 a := fun a o e n => by
      obtain ⟨e1, n1⟩ := kp2 a o e n
      refine ⟨f3.1 a o e1 n1, fun z => ?_⟩
      rcases f3.2 a z with y | y
      · exact n1 y
      · rw [e1] at y
        cases y
    have T3 : Tabs (TL Pt) H3 := tabs_keep hT fun a o e n => (kp3 a o e fun z => by
      rw [z, be] at e
      cases e
      exact n bp).1
    obtain ⟨es3, hes3⟩ : ∃ es3, es3 = es2 ++ [(q, y, (⟨P, C, if (0 : Int) = 0 then P else 0, C, 0⟩ : Po))] := ⟨_, rfl⟩
    have I3 : QI L 0 q P C 0 es3 := by
      rw [hes3]
      refine .zero W3 ⟨es2.length, (q, y, (⟨P, C, if (0 : Int) = 0 then P else 0, C, 0⟩ : Po)), List.getElem?_concat_length, rfl, ?_⟩
      show (⟨P, C, if (0 : Int) = 0 then P else 0, C, 0⟩ : Po) = ⟨P, C, P, C, 0⟩
      rw [if_pos rfl]
    have W3' : WF L 0 es3 := by rw [hes3]; exact W3
    have S3' : Sh CP CS R3 H3 ⟨x, dx, d, l, L, 0, es3, []⟩ := by rw [hes3]; exact S3
    have al3 : ms = [] → es3.length = 1 := fun z => by rw [hes3, al2 z] <;> rfl
    clear S3 W3
    obtain ⟨r3, nr3⟩ := kp3 _ _ hR nrb
    obtain ⟨h3, nh3⟩ := kp3 _ _ hsh nsb
    -- eight stretches
    refine ⟨8, rfl, by decide, by decide, fun D nD => ?_⟩
    have nDb : D ≠ b := (B3.ne nD).symm
    have nDR : ¬ R3 D := fun z => by
      obtain ⟨o, e, _⟩ := S3'.dom D z
      rw [nD] at e
      cases e
    refine lc_range (fun j H' => ∃ (R' : Addr → Prop) (es : List Ent) (news : List (List (Option Str))) (rs : List Addr), KSt CP CS Pt ⟨x, dx, d, l, L, 0, es3, []⟩ q P C ms b D (c + 1) R3 H3 j H' R' es news rs)
      ⟨R3, es3, [], [], ⟨rfl, rfl, (fun x hx => by cases hx), S3'.same (same_new nD), nb3, nDR, upd_same, (fun i x new h => by simp at h), (B3.new nD).mono (by omega), FrU.refl.new nD, tabs_keep T3 fun a o e _ => same_new nD _ _ e, W3', I3, (fun n hn => by cases hn), al3⟩⟩ ?_ ?_
    · rintro i H4 hi ⟨R4, es4, news, rs, G⟩
      have hi8 : i < 8 := hi
      obtain ⟨r4, nr4⟩ := G.fr r _ r3 nr3 nrb (fun ps z => by cases z)
      have hdl : (news.flatten.map ov).length ≤ 5000 := by
        rw [List.length_map, flat_len G.nl, G.n1]
        have z : L.toNat ≤ 60 := by omega
        show i * L.toNat ≤ 5000
        have := Nat.mul_le_mul (show i ≤ 8 by omega) z
        omega
      have b4 := G.bx
      refine ⟨rfl, _, rfl, _, rfl, _, rfl, _, rfl, _, rfl, R4, SS.to ⟨x, dx, d, l, L, 0, es3, []⟩ es4 news, b, r, c + 1 + 1000 * i, m, ms, q, P, C, rfl, G.sh, G.nb, b4, by omega, r4, nr4, nrb, by omega, hq, hok, m1, m2, hL2, rfl, hdl, hC1, G.wf, G.qi, G.al, G.tb, fun R5 es5 new a H5 na a5 S5 nb5 na5 B5 f5 T5 W5 I5 nl5 ge5 le5 al5 => ?_⟩
      obtain ⟨D5, nD5⟩ := f5 D _ G.hD G.nD nDb (fun ps z => by cases z)
      have naD : a ≠ D := (ne_of_none G.hD na).symm
      have nab : a ≠ b := (b4.ne na).symm
      refine ⟨rs.map V.ref, D5, ?_, R5, es5, news ++ [new], rs ++ [a], ?_⟩
      · rw [List.length_map, G.n2]
        exact small1000 (by omega)
      have newL : new.length = L.toNat := by
        have z : (new.length : Int) = L := nl5
        omega
      refine ⟨by rw [List.length_append, G.n1] <;> rfl, by rw [List.length_append, G.n2] <;> rfl, fun z hz => ?_, ?_, nb5, nD5, ?_, fun j z nw hj hn => ?_, (B5.oth nDb.symm).mono (by omega), ?_, ?_, W5, I5, fun nw hn => ?_, fun z => (al5 z).1⟩
      · rcases List.mem_append.mp hz with h | h
        · exact G.nl z h
        · rw [List.mem_singleton.mp h]
          exact newL
      · have S6 : Sh CP CS R5 (upd H5 D (.lst (rs.map V.ref ++ [.ref a]))) ((SS.to ⟨x, dx, d, l, L, 0, es3, []⟩ es4 news).at_ 0 es5 new) := S5.keep fun v o hv e => by
          rw [upd_ne (show v ≠ D from fun z => nD5 (by rw [← z]; exact hv))]
          exact e
        have e6 : (SS.to ⟨x, dx, d, l, L, 0, es3, []⟩ es4 news).at_ 0 es5 new = SS.to ⟨x, dx, d, l, L, 0, es3, []⟩ es5 (news ++ [new]) := by
          show (⟨x, dx, d, l, L, 0, es5, news.flatten.map ov ++ new.map ov⟩ : SS) = ⟨x, dx, d, l, L, 0, es5, (news ++ [new]).flatten.map ov⟩
          rw [List.flatten_append, List.map_append, List.flatten_singleton]
        rw [e6] at S6
        exact S6
      · rw [upd_same, List.map_append] <;> rfl
      · by_cases cj : j < i
        · rw [List.getElem?_append_left (by rw [G.n2]; exact cj)] at hj
          rw [List.getElem?_append_left (by rw [G.n1]; exact cj)] at hn
          obtain ⟨q1, q2, q3, q4⟩ := G.rows j z nw hj hn
          obtain ⟨q5, q6⟩ := f5 z _ q1 q2 q3 (fun ps z => by cases z)
          exact ⟨by rw [upd_ne q4]; exact q5, q6, q3, q4⟩
        · rw [List.getElem?_append_right (by rw [G.n2]; omega)] at hj
          rw [List.getElem?_append_right (by rw [G.n1]; omega)] at hn
          have y1 := List.mem_singleton.mp (List.mem_of_getElem? hj)
          have y2 := List.mem_singleton.mp (List.mem_of_getElem? hn)
          rw [y1, y2]
          exact ⟨by rw [upd_ne naD]; exact a5, na5, nab, naD⟩
      · exact (G.fr.trans f5).loc nD
      · refine tabs_upd T5 fun u e => ?_
        rw [D5] at e
        cases e
        exact True.intro
      · rcases List.mem_append.mp hn with h | h
        · exact G.ok nw h
        · rw [List.mem_singleton.mp h]
          exact ⟨ge5, le5, fun z => (al5 z).2⟩
    rintro H4 ⟨R4, es4, news, rs, G⟩
    have g1 : news.length = 8 := G.n1
    have g2 : rs.length = 8 := G.n2
    have gl : ∀ z ∈ news, z.length = L.toNat := G.nl
    have b4 := G.bx
    obtain ⟨h4, nh4⟩ := G.fr sh _ h3 nh3 nsb (fun ps z => by cases z)
    obtain ⟨r4, nr4⟩ := G.fr r _ r3 nr3 nrb (fun ps z => by cases z)
    have kp4 : FrT (· = b) H H4 := fun a o e n t => let ⟨e1, n1⟩ := kp3 a o e n; (G.fr a o e1 n1 n t).1
    have b4' : BoxAt H4 b (c + 10000) := b4.mono (by
      show c + 1 + 1000 * ((8 : Nat) : Int) ≤ c + 10000
      omega)
    have T4 := G.tb
    have D4 := G.hD
    have hrows : ∀ (i : Nat) (z : Addr) (nw : List (Option Str)), rs[i]? = some z → news[i]? = some nw → H4 z = some (.lst ((gotI q nw).map V.int)) := fun i z nw h1 h2 => (G.rows i z nw h1 h2).1
    have hok4 := G.ok
    have S4 : Sh CP CS R4 H4 ⟨x, dx, d, l, L, 0, es4, news.flatten.map ov⟩ := G.sh
    -- whole
    refine ⟨_, rfl, x, dx, _, rfl, S4.ob, sf_n13 _ _ _ _, R4, ⟨x, dx, d, l, L, 0, es4, news.flatten.map ov⟩, rfl, S4, fun W nW => ?_⟩
    have s5 : Same H4 (upd H4 W (.lst (news.flatten.map ov))) := same_new nW
    have hW : upd H4 W (.lst (news.flatten.map ov)) W = some (.lst (news.flatten.map ov)) := upd_same
    have dlen : (news.flatten.map ov).length = 8 * L.toNat := by rw [List.length_map, flat_len gl, g1]
    show tSeq _ _ _ _ (upd H4 W (.lst (news.flatten.map ov)))
    generalize upd H4 W (.lst (news.flatten.map ov)) = H5 at s5 hW ⊢
    refine ⟨_, rfl, W, _, rfl, .inl (.of hW), _, rfl, 8, L, rfl, rfl, .inl ⟨by decide, by omega⟩, rfl, _, rfl, ?_⟩
    refine ite2 (fun hz => ?_) (fun _ => ?_)
    · have z1 : V.int ((news.flatten.map ov).length : Int) = V.int (8 * L) := by
        rw [dlen]
        congr 1
        omega
      rw [z1] at hz
      simp at hz
    refine ⟨8, rfl, by decide, by decide, ?_⟩
    refine for_range (fun i σ H' => ∃ v9 : Option V, σ = [some (.ref b), some (.int L), some (.ref sh), some (.str q), some (.ref r), some (.int m), some (.ref x), some (.ref D), some (.ref W), v9, none, none] ∧ Same H5 H') ⟨none, rfl, Same.refl _⟩ ?_ ?_
    · rintro i σ H6 hi ⟨v9, rfl, s6⟩
      have hi8 : i < 8 := hi
      obtain ⟨z, hz⟩ : ∃ z, rs[i]? = some z := ⟨_, List.getElem?_eq_getElem (by omega)⟩
      obtain ⟨nw, hn⟩ : ∃ nw, news[i]? = some nw := ⟨_, List.getElem?_eq_getElem (by omega)⟩
      have nwl := gl nw (List.mem_of_getElem? hn)
      have z6 := s6 _ _ (s5 _ _ (hrows i z nw hz hn))
      have D6 := s6 _ _ (s5 _ _ D4)
      have W6 := s6 _ _ hW
      refine ⟨_, rfl, L, rfl, by omega, by omega, fun D2 n2 => ?_⟩
      refine lc_range (fun j H' => Same H6 H' ∧ H' D2 = some (.lst ((gotN q nw j).map V.int))) ⟨same_new n2, upd_same⟩ ?_ ?_
      · rintro j H7 hj ⟨s7, d7⟩
        obtain ⟨bj, hbj⟩ : ∃ bj, nw[j]? = some bj := ⟨_, List.getElem?_eq_getElem (by omega)⟩
        have fa := flat_at gl hn hj
        have eL : ((L.toNat : Nat) : Int) = L := by omega
        have at7 : atI (news.flatten.map ov) ((0 + (i : Int)) * L + (0 + (j : Int))) = some (ov bj) := by
          have e : (0 + (i : Int)) * L + (0 + (j : Int)) = ((i * L.toNat + j : Nat) : Int) := by
            rw [Int.natCast_add, Int.natCast_mul, eL, Int.zero_add, Int.zero_add]
          rw [e]
          exact atI_nat (by rw [List.getElem?_map, fa, hbj] <;> rfl)
        refine ⟨rfl, _, rfl, _, rfl, _, rfl, _, L, rfl, rfl, .inl ⟨by omega, by omega⟩, _, rfl, _, _, rfl, rfl, W, _, _, _, rfl, rfl, .of (s7 _ _ W6), at7, _, rfl, by cases bj <;> rfl, _, rfl, ?_⟩
        refine ite2 (fun he => ?_) (fun he => ?_)
        · have hq' : bj = some q := by
            have y := of_decide_eq_true he
            cases bj with
            | none => cases y
            | some n => rw [V.str.inj y]
          refine ⟨_, rfl, _, d7, ?_, ?_, ?_⟩
          · rw [List.length_map]
            have := gotN_len q nw j
            exact small1000 (by omega)
          · intro v o e
            rw [upd_ne (ne_of_none e n2)]
            exact s7 v o e
          · rw [upd_same, gotN_succ, if_pos (by rw [hbj, hq']), List.map_append]
            show some (HO.lst ((gotN q nw j).map V.int ++ [V.int (0 + (j : Int))])) = _
            rw [Int.zero_add] <;> rfl
        · have hq' : ¬ bj = some q := fun y => he (by rw [y]; exact decide_eq_true rfl)
          refine ⟨s7, ?_⟩
          rw [gotN_succ, if_neg (by rw [hbj]; exact fun y => hq' (Option.some.inj y)), List.append_nil]
          exact d7
      · rintro H7 ⟨s7, d7⟩
        have d7' : H7 D2 = some (.lst ((gotI q nw).map V.int)) := by
          unfold gotI
          rw [nwl]
          exact d7
        refine ⟨_, rfl, _, rfl, D, _, _, .ref z, rfl, rfl, .of (s7 _ _ D6), (by rw [Int.zero_add]; exact atI_nat (by rw [List.getElem?_map, hz] <;> rfl)), ?_⟩
        refine ⟨dI (gotI q nw), dI (gotI q nw), dp_ints (.of d7'), dp_ints (.of (s7 _ _ z6)), shaped_ints _, shaped_ints _, _, rfl, ?_⟩
        rw [eqv_ints]
        exact ⟨_, rfl, fun v o e => s7 v o (s6 v o e)⟩
    · rintro σ H6 ⟨v9, rfl, s6⟩
      refine ⟨_, rfl, D, rfl, ⟨_, .of (s6 _ _ (s5 _ _ D4))⟩, ?_⟩
      refine for_list (K := K) (a := D) (xs := rs.map V.ref) (fun i σ H' => ∃ v10 : Option V, σ = [some (.ref b), some (.int L), some (.ref sh), some (.str q), some (.ref r), some (.int m), some (.ref x), some (.ref D), some (.ref W), v9, v10, none] ∧ Same H6 H') ⟨none, rfl, Same.refl _⟩ (fun i σ H' _ ⟨_, _, e⟩ => .of (e _ _ (s6 _ _ (s5 _ _ D4)))) ?_ ?_
      · rintro i y σ H7 hi ⟨v10, rfl, s7⟩
        rw [List.getElem?_map] at hi
        cases hz : rs[i]? with
        | none =>
          rw [hz] at hi
          cases hi
        | some z =>
          rw [hz] at hi
          cases hi
          obtain ⟨nw, hn⟩ : ∃ nw, news[i]? = some nw := ⟨_, List.getElem?_eq_getElem (by have := (List.getElem?_eq_some_iff.mp hz).1; omega)⟩
          have s47 : Same H4 H7 := fun v o e => s7 v o (s6 v o (s5 v o e))
          have h7 := s47 _ _ h4
          have z7 := s47 _ _ (hrows i z nw hz hn)
          obtain ⟨o1, o2, o3⟩ := hok4 nw (List.mem_of_getElem? hn)
          have lz : (((gotI q nw).map V.int).length : Int) = (gotI q nw).length := by rw [List.length_map]
          refine ⟨_, rfl, sh, _, 0, .int P, rfl, rfl, .of h7, atI_nat (j := 0) rfl, _, rfl, z, _, rfl, .inl (.of z7), P, _, rfl, rfl, true, congrArg V.bl (decide_eq_true (by rw [lz]; exact o1)), iteT ⟨_, rfl, sh, _, 1, .int C, rfl, rfl, .of h7, atI_nat (j := 1) rfl, _, C, rfl, rfl, true, congrArg V.bl (decide_eq_true (by rw [lz]; exact o2)), iteF ?_⟩⟩
          refine ⟨_, rfl, (by show 0 ≤ sizeLine; decide), fun t nt => ?_⟩
          have sT : Same H7 (upd H7 t (.lst [])) := same_new nt
          have rT := sT _ _ (s47 _ _ r4)
          have eT : upd H7 t (.lst []) t = some (.lst ([].map V.str)) := upd_same
          have zT := sT _ _ z7
          have hT7 := sT _ _ h7
          refine ⟨dS ms, dS [], dp_strs (.of rT), dp_strs (.of eT), shaped_strs hok, shaped_strs (fun n hn => by cases hn), _, rfl, ?_⟩
          rw [eqv_nil]
          generalize upd H7 t (.lst []) = HT at sT rT eT zT hT7 ⊢
          have done : ∃ v10' : Option V, [some (V.ref b), some (.int L), some (.ref sh), some (.str q), some (.ref r), some (.int m), some (.ref x), some (.ref D), some (.ref W), v9, some (.ref z), none] = [some (.ref b), some (.int L), some (.ref sh), some (.str q), some (.ref r), some (.int m), some (.ref x), some (.ref D), some (.ref W), v9, v10', none] ∧ Same H6 HT :=
            ⟨_, rfl, fun v o e => sT v o (s7 v o e)⟩
          refine ite2 (fun hm => ?_) (fun hm => ?_)
          · have o3' := o3 (of_decide_eq_true hm)
            refine ⟨_, rfl, z, _, rfl, .inl (.of zT), _, rfl, sh, _, 1, .int C, rfl, rfl, .of hT7, atI_nat (j := 1) rfl, rfl, _, rfl, ?_⟩
            refine ite2 (fun hc => ?_) (fun _ => done)
            rw [lz, o3'] at hc
            simp at hc
          · exact done
      · rintro σ H7 ⟨v10, rfl, s7⟩
        have s47 : Same H4 H7 := fun v o e => s7 v o (s6 v o (s5 v o e))
        have h7 := s47 _ _ h4
        have fin : ∀ H8, Same H7 H8 → Q (.bl true) H8 := fun H8 s8 => by
          have s48 : Same H4 H8 := fun v o e => s8 v o (s47 v o e)
          exact k H8 (b4'.at_ fun o e => s48 _ _ e) (fun a o e n t => s48 _ _ (kp4 a o e n t)) (tabs_keep T4 fun a o e _ => s48 _ _ e)
        refine ⟨_, rfl, sh, _, 0, .int P, rfl, rfl, .of h7, atI_nat (j := 0) rfl, rfl, _, rfl, ?_⟩
        have D7 := s7 _ _ (s6 _ _ (s5 _ _ D4))
        refine ite2 (fun hp => ?_) (fun hp => ?_)
        · exact fin H7 (Same.refl _)
        · have hP1 : 1 ≤ P := by
            by_cases y : P = 0
            · exact absurd (decide_eq_true (by rw [y])) hp
            · omega
          refine ⟨_, rfl, _, rfl, L, D, rs, news.map (gotI q), rfl, ⟨D7, by rw [List.length_map]; omega, fun j z row hj hr => ?_⟩, by rw [List.length_map]; omega, by omega, hL2, fun row hrow => ?_, fun H8 s8 => fin H8 s8⟩
          · rw [List.getElem?_map] at hr
            cases e : news[j]? with
            | none =>
              rw [e] at hr
              cases hr
            | some nw =>
              rw [e] at hr
              cases hr
              exact s47 _ _ (hrows j z nw hj e)
          · obtain ⟨nw, hn, rfl⟩ := List.mem_map.mp hrow
            obtain ⟨o1, o2, _⟩ := hok4 nw hn
            have nl := gl nw hn
            refine ⟨fun y => ?_, ?_, fun t ht => ?_⟩
            · rw [y] at o1
              have o1' : P ≤ 0 := o1
              omega
            · omega
            · have := gotI_mem ht
              omega
end
end GA
namespace GA
set_option maxRecDepth 100000
set_option maxHeartbeats 4000000
open PySem PySem.Spec PyProof.Rows L2 LamX
/-! ### law -/
theorem cut_tail {ns : List Str} (h : ns.length = 7) (hi : Option Int) : ∃ ms : List Str, cutV (ns.map V.str) (some 1) hi = ms.map V.str ∧ ms.length ≤ 6 ∧ ∀ n ∈ ms, n ∈ ns.drop 1 := by
  unfold cutV
  rw [List.length_map, h, show HT.sIx 7 0 (some 1) = 1 from rfl]
  generalize HT.sIx 7 7 hi - 1 = k
  refine ⟨(ns.drop 1).take k, by rw [← List.map_drop, ← List.map_take], ?_, fun n hn => List.mem_of_mem_take hn⟩
  rw [List.length_take, List.length_drop, h]
  omega
def spLaw (K : PySem.W.Frag) (Pt : Addr) : Sp := fun vs H Q _ => ∃ (a : Addr) (ns : List Int), vs = [.ref a] ∧ SqL K H a (ns.map V.int) ∧ ns.length ≤ 100 ∧ Tabs (TL Pt) H ∧ ∀ H', Q (.bl true) H'
section
variable {P : Program} {w : World} {K : PySem.W.Frag} {mg : Str → Option Value} {base : Heap} {CP CS : Addr}
abbrev NLaw : List Str := ["_law_script", "_law_k", "_law_box_here", "_law_names_here", "_law_length_here", "_law_share_here", "_law_others_here"]
theorem scLaw : FnScope NLaw ["_law_script"] (defScope sLaw) := ⟨rfl, rfl, rfl, by decide +kernel, rfl, by decide +kernel, by decide +kernel⟩
theorem ok_law {f Pt : Addr} {fd : FuncData} (T : Txt K mg CP CS) (GC : GFn P w K mg base 1 "_law_cell" ["_law_script", "_law_k"] (spCell K)) (GB : GFn P w K mg base 1 "_law_box" ["_law_cell_here"] spBox)
    (GT : GFn P w K mg base 1 "_law_take" ["_law_box_here", "_law_size"] spTake) (GN : GFn P w K mg base 2 "_law_names" ["_law_box_here", "_law_size"] spNamesL) (GS : GFn P w K mg base 2 "_law_share" ["_law_box_here", "_law_length_here", "_law_free"] spShare)
    (GK : GFn P w K mg base 6 "_law_kept" ["_law_box_here", "_law_length_here", "_law_share_here", "_law_quiet", "_law_names_here", "_law_noisy"] (spKept Pt))
    (F : FnP K "law" "law" sLaw f fd) : FnOk P w K mg base CX0 7 f fd ["_law_script"] (spLaw K Pt) := by
  refine fn_ok F scLaw (fun vs H Q E h => ?_) (fun cdv A outer s0 H vs Q E hr h => ?_)
  · obtain ⟨a, ns, rfl, _⟩ := h
    rfl
  · obtain ⟨a, zs, rfl, hS, hz, hT, k⟩ := h
    refine ⟨_, pss_cons (ps_for PassesOwn.never rfl (pi_range1 (by rfl) T.range (pa_cons (pe_callB (call_max2 rfl) (by rfl) T.max boot_max (pa_cons pe_int (pa_cons (pe_callB (call_min2 rfl) (by rfl) T.min boot_min (pa_cons pe_int (pa_cons (pe_callB call_len_seq (by rfl) T.len PySem.boot_len (pa_cons (pv 0) pa_nil)) pa_nil))) pa_nil))) pa_nil)) (pg_name (i := 1) scLaw.nd rfl (Or.inl rfl))
        (pss_cons (ps_set (i := 2) scLaw.nd rfl (Or.inl rfl) (gcall GB hr (by decide) (by rfl) (pa_cons (gcall GC hr (by decide) (by rfl) (pa_cons (pv 0) (pa_cons (pv 1) pa_nil))) pa_nil)))
        (pss_cons (ps_set (i := 3) scLaw.nd rfl (Or.inl rfl) (gcall GN hr (by decide) (by rfl) (pa_cons (pv 2) (pa_cons pe_int pa_nil))))
        (pss_cons (ps_set (i := 4) scLaw.nd rfl (Or.inl rfl) (pe_ix ix_list (pe_lst (pa_cons pe_int (pa_cons pe_int (pa_cons pe_int (pa_cons pe_int pa_nil))))) (gcall GT hr (by decide) (by rfl) (pa_cons (pv 2) (pa_cons pe_int pa_nil))) (fun _ _ => rfl)))
        (C8.pss_cut (ps_if (PW.pt (pw_and (pt_cmpR op_eq (pv 1) pe_int (nomark _)) (pw_and1 (pt_cmpR op_eq (gcall GT hr (by decide) (by rfl) (pa_cons (pv 2) (pa_cons pe_int pa_nil))) pe_int (nomark _))))) (pss_one (ps_set (i := 4) scLaw.nd rfl (Or.inl rfl) pe_int)) pss_nil)
        (pss_cons (ps_set (i := 5) scLaw.nd rfl (Or.inl rfl) (gcall GS hr (by decide) (by rfl) (pa_cons (pv 2) (pa_cons (pv 4) (pa_cons (pv 4) pa_nil)))))
        (pss_one (ps_for PassesOwn.never rfl (pi_list (pe_lst (pa_cons (pe_lst pa_nil) (pa_cons (pe_slice sl_list (pv 3) (po_some pe_int) (po_some (pe_op op_add pe_int (gcall GT hr (by decide) (by rfl) (pa_cons (pv 2) (pa_cons pe_int pa_nil)))))) (pa_cons (pe_slice sl_list (pv 3) (po_some pe_int) po_none) pa_nil))))) (pg_name (i := 6) scLaw.nd rfl (Or.inl rfl))
          (pss_one (ps_if (pt_not (pt_val (gcall GK hr (by decide) (by rfl) (pa_cons (pv 2) (pa_cons (pv 4) (pa_cons (pv 5) (pa_cons (pe_ix ix_list (pv 3) pe_int (fun _ _ => rfl)) (pa_cons (pv 6) (pa_cons (pe_op op_add pe_int (gcall GT hr (by decide) (by rfl) (pa_cons (pv 2) (pa_cons pe_int pa_nil)))) pa_nil))))))))) (pss_one (ps_ret pe_bl)) pss_nil))))))))))
      (pss_one (ps_ret pe_bl)), ?_⟩
    refine ⟨_, rfl, a, zs.map V.int, rfl, .inl hS, 6, _, rfl, 2, _, rfl, ?_⟩
    obtain ⟨mm, hmm⟩ : ∃ mm : Int, mm = (if (if ((zs.map V.int).length : Int) < 6 then ((zs.map V.int).length : Int) else 6) > 2 then (if ((zs.map V.int).length : Int) < 6 then ((zs.map V.int).length : Int) else 6) else 2) := ⟨_, rfl⟩
    have hm6 : 0 ≤ mm ∧ mm ≤ 6 := by
      rw [hmm]
      split <;> split <;> omega
    rw [← hmm]
    refine ⟨mm, rfl, by omega, by omega, ?_⟩
    refine for_range (fun i σ H' => ∃ v1 v2 v3 v4 v5 v6 : Option V, σ = [some (.ref a), v1, v2, v3, v4, v5, v6] ∧ FrT (fun _ => False) H H' ∧ Tabs (TL Pt) H') ⟨none, none, none, none, none, none, rfl, .refl, hT⟩ ?_ ?_
    · rintro i σ H1 hi ⟨v1, v2, v3, v4, v5, v6, rfl, f1, T1⟩
      have hS1 := SqL.keep (H' := H1) hS fun o e t => f1 a o e (fun z => z) t
      refine ⟨_, rfl, _, rfl, a, zs, i, (by rw [Int.zero_add]; rfl), hS1, by omega, fun z => ?_⟩
      refine ⟨z, rfl, fun b H2 nb s2 B2 => ?_⟩
      have f2 : FrT (fun _ => False) H H2 := f1.trans (.same s2)
      have T2 : Tabs (TL Pt) H2 := tabs_keep T1 fun a o e _ => s2 a o e
      have fb : ∀ {H3 H4 : Hp}, FrT (fun _ => False) H1 H3 → FrT (· = b) H3 H4 → FrT (fun _ => False) H1 H4 := fun {H3 H4} f g u o e n t => g u o (f u o e n t) (ne_of_none e nb) t
      refine ⟨_, rfl, b, 0, rfl, B2, by omega, fun r ns H3 hr0 hR hlen hnd hok B3 k3 => ?_⟩
      obtain ⟨bo, be, bp⟩ := B3.ex
      have nrb : r ≠ b := fun z => by
        rw [z] at hR
        obtain ⟨_, _, _, e, _⟩ := B3
        rw [hR] at e
        have e' := Option.some.inj e
        cases ns with
        | nil => cases hlen
        | cons n t => cases e'
      have f3 : FrT (fun _ => False) H1 H3 := fb (.same s2) fun u o e n _ => k3 u o e n
      have T3 : Tabs (TL Pt) H3 := tabs_keep T2 (NP.but B2 k3)
      -- the length
      refine ⟨(by show 4 ≤ sizeLine; decide), fun pl npl => ?_⟩
      have B4 := B3.new (o := .lst [.int 4, .int 5, .int 7, .int 12]) npl
      have s4 : Same H3 (upd H3 pl (.lst [.int 4, .int 5, .int 7, .int 12])) := same_new npl
      have hpl : upd H3 pl (.lst [.int 4, .int 5, .int 7, .int 12]) pl = some (.lst [.int 4, .int 5, .int 7, .int 12]) := upd_same
      have nplb : pl ≠ b := (B3.ne npl).symm
      generalize upd H3 pl (.lst [.int 4, .int 5, .int 7, .int 12]) = H4 at B4 s4 hpl ⊢
      refine ⟨_, rfl, b, _, 4, rfl, B4, by omega, by decide, by decide, fun d H5 d0 d1 B5 k5 => ?_⟩
      obtain ⟨L0, hL0, l0, l1⟩ : ∃ L0, atI [V.int 4, .int 5, .int 7, .int 12] d = some (.int L0) ∧ 4 ≤ L0 ∧ L0 ≤ 60 := by
        rcases (by omega : d = 0 ∨ d = 1 ∨ d = 2 ∨ d = 3) with rfl | rfl | rfl | rfl
        · exact ⟨4, atI_nat (j := 0) rfl, by decide, by decide⟩
        · exact ⟨5, atI_nat (j := 1) rfl, by decide, by decide⟩
        · exact ⟨7, atI_nat (j := 2) rfl, by decide, by decide⟩
        · exact ⟨12, atI_nat (j := 3) rfl, by decide, by decide⟩
      refine ⟨pl, _, d, .int L0, rfl, rfl, .of (k5 _ _ hpl nplb), hL0, ?_⟩
      have k35 : But b H3 H5 := fun u o e n => k5 u o (s4 u o e) n
      -- 60, or not
      refine ⟨fun σ H6 => ∃ L : Int, 4 ≤ L ∧ L ≤ 60 ∧ σ = [some (.ref a), some (.int (0 + (i : Int))), some (.ref b), some (.ref r), some (.int L), v5, v6] ∧ But b H3 H6 ∧ BoxAt H6 b 30, ?_, ?_⟩
      · refine ⟨_, rfl, rfl, _, rfl, ?_⟩
        refine ite2 (fun _ => ?_) (fun _ => ?_)
        · refine ⟨_, rfl, b, _, 8, rfl, B5, by omega, by decide, by decide, fun d2 H6 d20 d21 B6 k6 => ⟨rfl, _, rfl, ?_⟩⟩
          refine ite2 (fun _ => ?_) (fun _ => ?_)
          · exact ⟨60, by decide, by decide, rfl, k35.trans k6, B6.mono (by omega)⟩
          · exact ⟨L0, l0, l1, rfl, k35.trans k6, B6.mono (by omega)⟩
        · exact ⟨L0, l0, l1, rfl, k35, B5.mono (by omega)⟩
      rintro σ H6 ⟨L, hL1, hL2, rfl, k6, B6⟩
      -- the share
      refine ⟨_, rfl, _, rfl, _, rfl, b, 30, L, L, rfl, B6, by decide, by omega, hL2, by omega, fun sh Pq Cq H7 nsh hsh g0 g1 g2 g3 g4 B7 k7 => ?_⟩
      have k37 := k6.trans k7
      have r7 := k37 _ _ hR nrb
      have nshb : sh ≠ b := fun z => by
        rw [z] at nsh
        obtain ⟨_, _, _, e, _⟩ := B6
        rw [nsh] at e
        cases e
      -- the three lists of others
      have i3 : ∀ {H' : Hp} {q : Addr}, BoxAt H' b 40 → H' q = none → q ≠ b := fun B n => (B.ne n).symm
      refine ⟨(by show 0 ≤ sizeLine; decide), fun o1 n1 => ?_⟩
      have B8 := (B7.mono (show (30 : Int) + 4 ≤ 40 by decide)).new (o := .lst []) n1
      have k8 := k37.new (o := .lst []) n1
      have e8 : upd H7 o1 (.lst []) o1 = some (.lst ([].map V.str)) := upd_same
      have sh8 := same_new (o := .lst []) n1 _ _ hsh
      have nb1 : o1 ≠ b := (B7.ne n1).symm
      generalize upd H7 o1 (.lst []) = H8 at B8 k8 e8 sh8 ⊢
      refine ⟨_, rfl, 1, rfl, _, rfl, b, 40, 5, rfl, B8, by decide, by decide, by decide, fun d3 H9 d30 d31 B9 k9 => ?_⟩
      have r9 := k9 _ _ (k8 _ _ hR nrb) nrb
      have e9 := k9 _ _ e8 nb1
      have sh9 := k9 _ _ sh8 nshb
      have k39 := k8.trans k9
      refine ⟨2, d3, rfl, rfl, _, rfl, r, _, rfl, .of r9, fun o2 n2 => ?_⟩
      obtain ⟨ms2, c2, m2l, m2d⟩ := cut_tail hlen (some (2 + d3))
      rw [c2]
      have B10 := B9.new (o := .lst (ms2.map V.str)) n2
      have k10 := k39.new (o := .lst (ms2.map V.str)) n2
      have s10 : Same H9 (upd H9 o2 (.lst (ms2.map V.str))) := same_new n2
      have e10 : upd H9 o2 (.lst (ms2.map V.str)) o2 = some (.lst (ms2.map V.str)) := upd_same
      have nb2 : o2 ≠ b := (B9.ne n2).symm
      generalize upd H9 o2 (.lst (ms2.map V.str)) = H10 at B10 k10 s10 e10 ⊢
      refine ⟨_, rfl, 1, rfl, r, _, rfl, .of (s10 _ _ r9), fun o3 n3 => ?_⟩
      obtain ⟨ms3, c3, m3l, m3d⟩ := cut_tail hlen none
      rw [c3]
      have B11 := B10.new (o := .lst (ms3.map V.str)) n3
      have k11 := k10.new (o := .lst (ms3.map V.str)) n3
      have s11 : Same H10 (upd H10 o3 (.lst (ms3.map V.str))) := same_new n3
      have e11 : upd H10 o3 (.lst (ms3.map V.str)) o3 = some (.lst (ms3.map V.str)) := upd_same
      have nb3 : o3 ≠ b := (B10.ne n3).symm
      generalize upd H10 o3 (.lst (ms3.map V.str)) = H11 at B11 k11 s11 e11 ⊢
      refine ⟨(by show 3 ≤ sizeLine; decide), fun o4 n4 => ⟨o4, rfl, ⟨_, .of upd_same⟩, ?_⟩⟩
      have B12 := B11.new (o := .lst [.ref o1, .ref o2, .ref o3]) n4
      have k12 := k11.new (o := .lst [.ref o1, .ref o2, .ref o3]) n4
      have s12 : Same H11 (upd H11 o4 (.lst [.ref o1, .ref o2, .ref o3])) := same_new n4
      have e12 : upd H11 o4 (.lst [.ref o1, .ref o2, .ref o3]) o4 = some (.lst [.ref o1, .ref o2, .ref o3]) := upd_same
      have nb4 : o4 ≠ b := (B11.ne n4).symm
      show ∃ W : Nat → Nat → L2.St → Hp → Prop, (∃ m, W 0 m _ (upd H11 o4 (.lst [.ref o1, .ref o2, .ref o3]))) ∧ _
      generalize upd H11 o4 (.lst [.ref o1, .ref o2, .ref o3]) = H12 at B12 k12 s12 e12 ⊢
      have T12 : Tabs (TL Pt) H12 := tabs_keep T3 (NP.but B3 k12)
      have r12 := s12 _ _ (s11 _ _ (s10 _ _ r9))
      have sh12 := s12 _ _ (s11 _ _ (s10 _ _ sh9))
      have o1e := s12 _ _ (s11 _ _ (s10 _ _ e9))
      have o2e := s12 _ _ (s11 _ _ e10)
      have o3e := s12 _ _ e11
      have f12 : FrT (fun _ => False) H1 H12 := fb f3 fun u o e n _ => k12 u o e n
      obtain ⟨n0, nt, hns⟩ : ∃ n0 nt, ns = n0 :: nt := by
        cases ns with
        | nil => cases hlen
        | cons n0 nt => exact ⟨n0, nt, rfl⟩
      have hn0 : n0 ∉ ns.drop 1 := by
        rw [hns] at hnd ⊢
        exact (List.nodup_cons.mp hnd).1
      have at0 : atI (ns.map V.str) 0 = some (.str n0) := by
        rw [hns]
        exact atI_nat (j := 0) rfl
      have ok0 : OkName n0 := hok n0 (by rw [hns]; exact List.mem_cons_self)
      have okd : ∀ n ∈ ns.drop 1, OkName n := fun n hn => hok n (List.mem_of_mem_drop hn)
      refine for_list (K := K) (a := o4) (xs := [.ref o1, .ref o2, .ref o3]) (fun j σ H' => ∃ v6' : Option V, σ = [some (.ref a), some (.int (0 + (i : Int))), some (.ref b), some (.ref r), some (.int L), some (.ref sh), v6'] ∧ BoxAt H' b (50 + 10010 * j) ∧ FrT (· = b) H12 H' ∧ Tabs (TL Pt) H')
        ⟨_, rfl, B12.mono (by omega), .refl, T12⟩ (fun j σ H' _ ⟨_, _, _, f', _⟩ => .of (f' _ _ e12 nb4 (fun ps z => by cases z))) ?_ ?_
      · rintro j x σ H13 hx ⟨v6', rfl, B13, f13, T13⟩
        obtain ⟨oj, ms, rfl, hoj, nboj, lms, dms, hj3⟩ : ∃ (oj : Addr) (ms : List Str), x = .ref oj ∧ H12 oj = some (.lst (ms.map V.str)) ∧ oj ≠ b ∧ ms.length ≤ 6 ∧ (∀ n ∈ ms, n ∈ ns.drop 1) ∧ j < 3 := by
          have hj3 : j < 3 := (List.getElem?_eq_some_iff.mp hx).1
          rcases (by omega : j = 0 ∨ j = 1 ∨ j = 2) with rfl | rfl | rfl
          · exact ⟨o1, [], (Option.some.inj hx).symm, o1e, nb1, by decide, (fun n hn => by cases hn), hj3⟩
          · exact ⟨o2, ms2, (Option.some.inj hx).symm, o2e, nb2, m2l, m2d, hj3⟩
          · exact ⟨o3, ms3, (Option.some.inj hx).symm, o3e, nb3, m3l, m3d, hj3⟩
        have r13 := f13 _ _ r12 nrb (fun ps z => by cases z)
        have oj13 := f13 _ _ hoj nboj (fun ps z => by cases z)
        have sh13 := f13 _ _ sh12 nshb (fun ps z => by cases z)
        refine ⟨_, rfl, _, rfl, _, rfl, _, rfl, r, _, 0, .str n0, rfl, rfl, .of r13, at0, _, rfl, _, rfl, b, _, 6, rfl, B13, by omega, by decide, by decide, fun d4 H14 d40 d41 B14 k14 => ?_⟩
        refine ⟨1, d4, rfl, rfl, b, sh, oj, _, L, 1 + d4, Pq, Cq, ms, n0, rfl, B14, by omega, hL1, hL2, k14 _ _ sh13 nshb, g0, g1, g2, g3, g4, ok0, k14 _ _ oj13 nboj, nboj, lms, fun z => hn0 (dms n0 z), fun n hn => okd n (dms n hn), by omega, by omega, tabs_keep T13 (NP.but B13 k14), fun H15 B15 f15 T15 => ?_⟩
        exact ⟨true, rfl, iteF ⟨_, rfl, B15.mono (by omega), f13.trans ((FrT.but (R := (· = b)) k14 rfl).trans f15), T15⟩⟩
      · rintro σ H13 ⟨v6', rfl, B13, f13, T13⟩
        exact ⟨_, _, _, _, _, _, rfl, f1.trans (fb f12 f13), T13⟩
    · rintro σ H1 ⟨v1, v2, v3, v4, v5, v6, rfl, f1, T1⟩
      exact k H1
end
end GA
namespace GA
set_option linter.all false
set_option maxRecDepth 100000
set_option maxHeartbeats 0
open PySem PySem.Spec PyProof.Rows L2
def gD (x : Str) (st : Stmt) : He.DefD := ⟨(x, none), x, x, defArgs st, defBody st, defScope st, [], []⟩
def mD (C m q : Str) (st : Stmt) : He.DefD := ⟨(C, some m), m, q, defArgs st, defBody st, defScope st, [], []⟩
def mDk (C m q : Str) (st : Stmt) (kw : List (Str × He.Dv)) : He.DefD := ⟨(C, some m), m, q, defArgs st, defBody st, defScope st, [], kw⟩
def fn : List He.DefD := [gD "is_whole" sIsWhole, gD "is_name" sIsName, gD "need_length" sNeedLen, gD "need_share" sNeedShare,
  mD "Portion" "__init__" "Portion.__init__" sPInit, mD "Portion" "begin" "Portion.begin" sPBegin,
  mD "Shares" "__init__" "Shares.__init__" sSInit, mD "Shares" "need_guest" "Shares.need_guest" sNeedGuest, mDk "Shares" "need_room_for" "Shares.need_room_for" sNeedRoom [("but", .int 0)],
  mD "Shares" "come" "Shares.come" sCome, mD "Shares" "go" "Shares.go" sGo, mD "Shares" "change" "Shares.change" sChange, mD "Shares" "promised_one" "Shares.promised_one" sPromisedOne,
  mD "Shares" "free_one" "Shares.free_one" sFreeOne, mD "Shares" "deal" "Shares.deal" sDeal, mD "Shares" "length" "Shares.length" sLength, mD "Shares" "names" "Shares.names" sNames,
  mD "Shares" "promise" "Shares.promise" sPromise, mD "Shares" "promised" "Shares.promised" sPromised, mD "Shares" "dealt" "Shares.dealt" sDealt,
  gD "_law_cell" sLCell, gD "_law_box" sLBox, gD "_law_take" sLTake, gD "_law_names" sLNames, gD "_law_share" sLShare, gD "_law_others" sLOthers, gD "_law_got" sLGot, gD "_law_gaps" sLGaps, gD "_law_kept" sLKept, gD "law" sLaw]
def fa : List He.Fa := [.cls "Portion", .cls "Shares", .noat "Portion" "told_promise", .noat "Portion" "told_ceiling", .noat "Portion" "now_promise", .noat "Portion" "now_ceiling", .noat "Portion" "turns_used",
  .noat "Shares" "own_length", .noat "Shares" "portions", .noat "Shares" "turns_passed", .noat "Shares" "all_dealt", .glo "Portion", .glo "Shares",
  .free "isinstance", .free "int", .free "bool", .free "str", .free "list", .free "tuple", .free "len", .free "all", .free "max", .free "min", .free "sum", .free "range",
  .str "LETTERS" "abcdefghijklmnopqrstuvwxyz", .int "LONGEST_NAME" 8, .int "LEAST_LENGTH" 4, .int "MOST_LENGTH" 60, .int "MOST_GUESTS" 6,
  .mkr "Portion", .mkr "Shares", .meth "Portion" "begin", .meth "Shares" "need_guest", .meth "Shares" "need_room_for", .meth "Shares" "come", .meth "Shares" "go", .meth "Shares" "change", .meth "Shares" "promised_one", .meth "Shares" "free_one", .meth "Shares" "deal",
  .meth "Shares" "length", .meth "Shares" "names", .meth "Shares" "promise", .meth "Shares" "promised", .meth "Shares" "dealt",
  .glo "is_whole", .glo "is_name", .glo "need_length", .glo "need_share", .glo "_law_cell", .glo "_law_box", .glo "_law_take", .glo "_law_names", .glo "_law_share", .glo "_law_others", .glo "_law_got", .glo "_law_gaps", .glo "_law_kept", .glo "law"]
def tf : List He.Defn := [("Shares", some "free_one")]
abbrev RR : PySem.W.OpenRow := PySem.W.OpenLaw.row PySem.Challenge.rw_guestsalone_k27_whole_quiet_and_noisy
abbrev hk : PySem.W.Hook := He.hookX 5 fa fn [] tf (fun _ => true)
def ob (s : PySem.W.SharedT) : He.AlX := He.obsX 5 fa fn [] tf (fun _ => true) (HandSHeadRun.getT s)
theorem ob_eq (s : PySem.W.SharedT) : ob s = hk.obs s.abs := He.obsX_eq (HandSHeadRun.getT_eq s)
def loose : List Str := ["_wall", "__name__", "GuestError", "Missing", "Barred", "NoNumber", "NoName", "Doubled", "TooMuch", "NoGuest", "Full", "LETTERS", "LONGEST_NAME", "is_whole", "is_name", "LEAST_LENGTH", "MOST_LENGTH", "MOST_GUESTS", "need_length", "need_share", "Portion", "Shares",
  "_law_cell", "_law_box", "_law_take", "_law_names", "_law_length", "_law_share", "_law_others", "_law_got", "_law_gaps", "_law_kept"]
theorem run (w : World) : HandSHeadRun.RunEq RR (PySem.W.view RR.prog [35]) hk ob 6000 loose w := by
  intro os
  kernel_rfl
end GA
namespace GA
set_option linter.all false
set_option maxRecDepth 100000
set_option maxHeartbeats 4000000
open PySem PySem.Spec PyProof.Rows L2 LamX
theorem code_of {K : PySem.W.Frag} {x qual : Str} {params : Arguments} {body : List Stmt} {scope : Scope} {dvs : List V} {kws : List (Str × V)} {p : Str × Option Str} {fd : FuncData} (F : FunD K x qual params body scope dvs kws (He.fAd K p) fd) : fd.code = .ref (He.codeOf K p) := by
  obtain ⟨oc, od, dV, kV, doc, pm, an, cdv, ct, osl, rfl, lk, hcd, hD, hK⟩ := F.ex
  obtain ⟨cc, e⟩ := He.codeIn_ref hcd
  rw [He.codeOf_eq lk (show (PySem.W.fnOf x qual params body scope dV kV doc pm an cdv ct).code = .ref cc from e)]
  exact e
theorem facts {w : World} {K : PySem.W.Frag} {h : Heap} {mg : Str → Option Value} {f : Addr} (X : K.In h) (G : h.Ns mainGlobals mg) (hfa : mg ("law" : Str) = some (.ref f)) (cx : He.SaysX fa fn [] tf (fun _ => true) w h K) :
    LamX.LawAtS PySem.Challenge.rw_guestsalone_k27_whole_quiet_and_noisy w K CX0 7 63 "_law_script" mg f h := by
  have c : He.SaysD fa fn K := cx.t.d
  have e := hfa.symm.trans (He.glo_ok X G (c.fact 59 (f := .glo "law") rfl))
  cases e
  obtain ⟨fd0, F0⟩ := c.def_ 0 (d := gD "is_whole" sIsWhole) rfl
  obtain ⟨fd1, F1⟩ := c.def_ 1 (d := gD "is_name" sIsName) rfl
  obtain ⟨fd2, F2⟩ := c.def_ 2 (d := gD "need_length" sNeedLen) rfl
  obtain ⟨fd3, F3⟩ := c.def_ 3 (d := gD "need_share" sNeedShare) rfl
  obtain ⟨fd4, F4⟩ := c.def_ 4 (d := mD "Portion" "__init__" "Portion.__init__" sPInit) rfl
  obtain ⟨fd5, F5⟩ := c.def_ 5 (d := mD "Portion" "begin" "Portion.begin" sPBegin) rfl
  obtain ⟨fd6, F6⟩ := c.def_ 6 (d := mD "Shares" "__init__" "Shares.__init__" sSInit) rfl
  obtain ⟨fd7, F7⟩ := c.def_ 7 (d := mD "Shares" "need_guest" "Shares.need_guest" sNeedGuest) rfl
  obtain ⟨fd8, F8⟩ := c.def_ 8 (d := mDk "Shares" "need_room_for" "Shares.need_room_for" sNeedRoom [("but", .int 0)]) rfl
  obtain ⟨fd9, F9⟩ := c.def_ 9 (d := mD "Shares" "come" "Shares.come" sCome) rfl
  obtain ⟨fd10, F10⟩ := c.def_ 10 (d := mD "Shares" "go" "Shares.go" sGo) rfl
  obtain ⟨fd11, F11⟩ := c.def_ 11 (d := mD "Shares" "change" "Shares.change" sChange) rfl
  obtain ⟨fd12, F12⟩ := c.def_ 12 (d := mD "Shares" "promised_one" "Shares.promised_one" sPromisedOne) rfl
  obtain ⟨fd13, F13⟩ := c.def_ 13 (d := mD "Shares" "free_one" "Shares.free_one" sFreeOne) rfl
  obtain ⟨fd14, F14⟩ := c.def_ 14 (d := mD "Shares" "deal" "Shares.deal" sDeal) rfl
  obtain ⟨fd15, F15⟩ := c.def_ 15 (d := mD "Shares" "length" "Shares.length" sLength) rfl
  obtain ⟨fd16, F16⟩ := c.def_ 16 (d := mD "Shares" "names" "Shares.names" sNames) rfl
  obtain ⟨fd17, F17⟩ := c.def_ 17 (d := mD "Shares" "promise" "Shares.promise" sPromise) rfl
  obtain ⟨fd18, F18⟩ := c.def_ 18 (d := mD "Shares" "promised" "Shares.promised" sPromised) rfl
  obtain ⟨fd19, F19⟩ := c.def_ 19 (d := mD "Shares" "dealt" "Shares.dealt" sDealt) rfl
  obtain ⟨fd20, F20⟩ := c.def_ 20 (d := gD "_law_cell" sLCell) rfl
  obtain ⟨fd21, F21⟩ := c.def_ 21 (d := gD "_law_box" sLBox) rfl
  obtain ⟨fd22, F22⟩ := c.def_ 22 (d := gD "_law_take" sLTake) rfl
  obtain ⟨fd23, F23⟩ := c.def_ 23 (d := gD "_law_names" sLNames) rfl
  obtain ⟨fd24, F24⟩ := c.def_ 24 (d := gD "_law_share" sLShare) rfl
  obtain ⟨fd25, F25⟩ := c.def_ 25 (d := gD "_law_others" sLOthers) rfl
  obtain ⟨fd26, F26⟩ := c.def_ 26 (d := gD "_law_got" sLGot) rfl
  obtain ⟨fd27, F27⟩ := c.def_ 27 (d := gD "_law_gaps" sLGaps) rfl
  obtain ⟨fd28, F28⟩ := c.def_ 28 (d := gD "_law_kept" sLKept) rfl
  obtain ⟨fd29, F29⟩ := c.def_ 29 (d := gD "law" sLaw) rfl
  have T : Txt K mg (He.ga K "Portion") (He.ga K "Shares") :=
    { clP := He.cls_ok (c.fact 0 (f := .cls "Portion") rfl)
      clS := He.cls_ok (c.fact 1 (f := .cls "Shares") rfl)
      nTP := He.noat_ok (c.fact 2 (f := .noat "Portion" "told_promise") rfl)
      nTC := He.noat_ok (c.fact 3 (f := .noat "Portion" "told_ceiling") rfl)
      nNP := He.noat_ok (c.fact 4 (f := .noat "Portion" "now_promise") rfl)
      nNC := He.noat_ok (c.fact 5 (f := .noat "Portion" "now_ceiling") rfl)
      nTU := He.noat_ok (c.fact 6 (f := .noat "Portion" "turns_used") rfl)
      nOL := He.noat_ok (c.fact 7 (f := .noat "Shares" "own_length") rfl)
      nPo := He.noat_ok (c.fact 8 (f := .noat "Shares" "portions") rfl)
      nPa := He.noat_ok (c.fact 9 (f := .noat "Shares" "turns_passed") rfl)
      nAD := He.noat_ok (c.fact 10 (f := .noat "Shares" "all_dealt") rfl)
      mgP := He.glo_ok X G (c.fact 11 (f := .glo "Portion") rfl)
      mgS := He.glo_ok X G (c.fact 12 (f := .glo "Shares") rfl)
      isi := He.free_ok X G (c.fact 13 (f := .free "isinstance") rfl)
      tint := He.free_ok X G (c.fact 14 (f := .free "int") rfl)
      tbool := He.free_ok X G (c.fact 15 (f := .free "bool") rfl)
      tstr := He.free_ok X G (c.fact 16 (f := .free "str") rfl)
      tlist := He.free_ok X G (c.fact 17 (f := .free "list") rfl)
      ttuple := He.free_ok X G (c.fact 18 (f := .free "tuple") rfl)
      len := He.free_ok X G (c.fact 19 (f := .free "len") rfl)
      all := He.free_ok X G (c.fact 20 (f := .free "all") rfl)
      max := He.free_ok X G (c.fact 21 (f := .free "max") rfl)
      min := He.free_ok X G (c.fact 22 (f := .free "min") rfl)
      sum := He.free_ok X G (c.fact 23 (f := .free "sum") rfl)
      range := He.free_ok X G (c.fact 24 (f := .free "range") rfl)
      letters := He.str_ok X G (c.fact 25 (f := .str "LETTERS" "abcdefghijklmnopqrstuvwxyz") rfl)
      longest := He.int_ok X G (c.fact 26 (f := .int "LONGEST_NAME" 8) rfl)
      least := He.int_ok X G (c.fact 27 (f := .int "LEAST_LENGTH" 4) rfl)
      most := He.int_ok X G (c.fact 28 (f := .int "MOST_LENGTH" 60) rfl)
      guests := He.int_ok X G (c.fact 29 (f := .int "MOST_GUESTS" 6) rfl) }
  have hmem : (("Shares", some "free_one") : He.Defn) ∈ tf := List.mem_singleton.mpr rfl
  refine ⟨fd29, [He.cT K ("Shares", some "free_one")], spLaw K (He.cT K ("Shares", some "free_one")).2, fun p hp => by rw [List.mem_singleton.mp hp]; exact cx.empty _ hmem, fun p hp => by rw [List.mem_singleton.mp hp]; exact cx.out _ hmem,
    fun p hp => by rw [List.mem_singleton.mp hp]; exact PySem.W.codeHd_of_K X (cx.hd _ hmem), ?_, ?_, ?_⟩
  · have b := FunD.bindsA (ps := ["_law_script"]) F29 fun _ _ _ _ _ _ us hl => match us, hl with | [_], _ => rfl
    exact fun s v => b s [v] rfl
  · intro H a ns hl hbits hH hS
    refine ⟨a, ns, rfl, hS, by omega, fun p hp => ?_, fun _ => rfl⟩
    rw [List.mem_singleton.mp hp]
    exact TabS.nil (hH _ (List.mem_singleton.mpr rfl))
  · intro base Xb Gb hTB
    have TB := hTB _ (List.mem_singleton.mpr rfl)
    generalize hPt : (He.cT K ("Shares", some "free_one")).2 = Pt at TB ⊢
    have G0 : GFn (PySem.Challenge.rw_guestsalone_k27_whole_quiet_and_noisy).prog w K mg base 1 "is_whole" ["thing", "low", "high"] spWhole := ⟨_, fd0, ok_whole T F0, F0.bindsN fun _ _ _ _ _ _ us hl => match us, hl with | [_, _, _], _ => rfl, He.glo_ok X G (c.fact 46 (f := .glo "is_whole") rfl), F0.kp⟩
    have G1 : GFn (PySem.Challenge.rw_guestsalone_k27_whole_quiet_and_noisy).prog w K mg base 1 "is_name" ["thing"] spIsName := ⟨_, fd1, ok_isname T F1, F1.bindsN fun _ _ _ _ _ _ us hl => match us, hl with | [_], _ => rfl, He.glo_ok X G (c.fact 47 (f := .glo "is_name") rfl), F1.kp⟩
    have G2 : GFn (PySem.Challenge.rw_guestsalone_k27_whole_quiet_and_noisy).prog w K mg base 2 "need_length" ["length"] spNeedLen := ⟨_, fd2, ok_needlen T G0 F2, F2.bindsN fun _ _ _ _ _ _ us hl => match us, hl with | [_], _ => rfl, He.glo_ok X G (c.fact 48 (f := .glo "need_length") rfl), F2.kp⟩
    have G3 : GFn (PySem.Challenge.rw_guestsalone_k27_whole_quiet_and_noisy).prog w K mg base 2 "need_share" ["length", "promise", "ceiling"] spNeedShare := ⟨_, fd3, ok_needshare T G0 F3, F3.bindsN fun _ _ _ _ _ _ us hl => match us, hl with | [_, _, _], _ => rfl, He.glo_ok X G (c.fact 49 (f := .glo "need_share") rfl), F3.kp⟩
    have G4 : GPort (PySem.Challenge.rw_guestsalone_k27_whole_quiet_and_noisy).prog w K mg base (He.ga K "Portion") := ⟨_, fd4, ok_pinit T F4, He.mkr_ok (c.fact 30 (f := .mkr "Portion") rfl), kb_port F4⟩
    have G5 : MFn (PySem.Challenge.rw_guestsalone_k27_whole_quiet_and_noisy).prog w K mg base 1 (He.ga K "Portion") "begin" ["self"] (spPBegin (He.ga K "Portion")) := ⟨_, fd5, ok_pbegin T F5, F5.bindsN fun _ _ _ _ _ _ us hl => match us, hl with | [_], _ => rfl, He.meth_ok (c.fact 32 (f := .meth "Portion" "begin") rfl)⟩
    have G6 : GShares (PySem.Challenge.rw_guestsalone_k27_whole_quiet_and_noisy).prog w K mg base (He.ga K "Portion") (He.ga K "Shares") := ⟨_, fd6, ok_sinit T G2 F6, He.mkr_ok (c.fact 31 (f := .mkr "Shares") rfl), F6.bindsN fun _ _ _ _ _ _ us hl => match us, hl with | [_, _], _ => rfl⟩
    have G7 : MFn (PySem.Challenge.rw_guestsalone_k27_whole_quiet_and_noisy).prog w K mg base 1 (He.ga K "Shares") "need_guest" ["self", "name"] (spNeedGuest (He.ga K "Portion") (He.ga K "Shares")) := ⟨_, fd7, ok_needguest T F7, F7.bindsN fun _ _ _ _ _ _ us hl => match us, hl with | [_, _], _ => rfl, He.meth_ok (c.fact 33 (f := .meth "Shares" "need_guest") rfl)⟩
    have G15 : MFn (PySem.Challenge.rw_guestsalone_k27_whole_quiet_and_noisy).prog w K mg base 1 (He.ga K "Shares") "length" ["self"] (spLength (He.ga K "Portion") (He.ga K "Shares")) := ⟨_, fd15, ok_length T F15, F15.bindsN fun _ _ _ _ _ _ us hl => match us, hl with | [_], _ => rfl, He.meth_ok (c.fact 41 (f := .meth "Shares" "length") rfl)⟩
    have G16 : MFn (PySem.Challenge.rw_guestsalone_k27_whole_quiet_and_noisy).prog w K mg base 1 (He.ga K "Shares") "names" ["self"] (spNames (He.ga K "Portion") (He.ga K "Shares")) := ⟨_, fd16, ok_names T F16, F16.bindsN fun _ _ _ _ _ _ us hl => match us, hl with | [_], _ => rfl, He.meth_ok (c.fact 42 (f := .meth "Shares" "names") rfl)⟩
    have G17 : MFn (PySem.Challenge.rw_guestsalone_k27_whole_quiet_and_noisy).prog w K mg base 2 (He.ga K "Shares") "promise" ["self", "name"] (spPromise (He.ga K "Portion") (He.ga K "Shares")) := ⟨_, fd17, ok_promise T G7 F17, F17.bindsN fun _ _ _ _ _ _ us hl => match us, hl with | [_, _], _ => rfl, He.meth_ok (c.fact 43 (f := .meth "Shares" "promise") rfl)⟩
    have G18 : MFn (PySem.Challenge.rw_guestsalone_k27_whole_quiet_and_noisy).prog w K mg base 1 (He.ga K "Shares") "promised" ["self"] (spPromised (He.ga K "Portion") (He.ga K "Shares")) := ⟨_, fd18, ok_promised T F18, F18.bindsN fun _ _ _ _ _ _ us hl => match us, hl with | [_], _ => rfl, He.meth_ok (c.fact 44 (f := .meth "Shares" "promised") rfl)⟩
    have G19 : MFn (PySem.Challenge.rw_guestsalone_k27_whole_quiet_and_noisy).prog w K mg base 1 (He.ga K "Shares") "dealt" ["self"] (spDealt (He.ga K "Portion") (He.ga K "Shares")) := ⟨_, fd19, ok_dealt T F19, F19.bindsN fun _ _ _ _ _ _ us hl => match us, hl with | [_], _ => rfl, He.meth_ok (c.fact 45 (f := .meth "Shares" "dealt") rfl)⟩
    have G8 : GRoom (PySem.Challenge.rw_guestsalone_k27_whole_quiet_and_noisy).prog w K mg base (He.ga K "Portion") (He.ga K "Shares") := g_room T G18 F8 (He.meth_ok (c.fact 34 (f := .meth "Shares" "need_room_for") rfl))
    have G9 : MFn (PySem.Challenge.rw_guestsalone_k27_whole_quiet_and_noisy).prog w K mg base 3 (He.ga K "Shares") "come" ["self", "name", "promise", "ceiling"] (spCome (He.ga K "Portion") (He.ga K "Shares")) := ⟨_, fd9, ok_come T G1 G3 G8 G4 F9, F9.bindsN fun _ _ _ _ _ _ us hl => match us, hl with | [_, _, _, _], _ => rfl, He.meth_ok (c.fact 35 (f := .meth "Shares" "come") rfl)⟩
    have G10 : MFn (PySem.Challenge.rw_guestsalone_k27_whole_quiet_and_noisy).prog w K mg base 2 (He.ga K "Shares") "go" ["self", "name"] (spGo (He.ga K "Portion") (He.ga K "Shares")) := ⟨_, fd10, ok_go T G7 F10, F10.bindsN fun _ _ _ _ _ _ us hl => match us, hl with | [_, _], _ => rfl, He.meth_ok (c.fact 36 (f := .meth "Shares" "go") rfl)⟩
    have G11 : MFn (PySem.Challenge.rw_guestsalone_k27_whole_quiet_and_noisy).prog w K mg base 3 (He.ga K "Shares") "change" ["self", "name", "promise", "ceiling"] (spChange (He.ga K "Portion") (He.ga K "Shares")) := ⟨_, fd11, ok_change T G7 G3 G8 G5 F11, F11.bindsN fun _ _ _ _ _ _ us hl => match us, hl with | [_, _, _, _], _ => rfl, He.meth_ok (c.fact 37 (f := .meth "Shares" "change") rfl)⟩
    have G12 : MFn (PySem.Challenge.rw_guestsalone_k27_whole_quiet_and_noisy).prog w K mg base 1 (He.ga K "Shares") "promised_one" ["self", "ready"] (spPromisedOne (He.ga K "Portion") (He.ga K "Shares")) := ⟨_, fd12, ok_promisedone T F12, F12.bindsN fun _ _ _ _ _ _ us hl => match us, hl with | [_, _], _ => rfl, He.meth_ok (c.fact 38 (f := .meth "Shares" "promised_one") rfl)⟩
    have G13 : MFn (PySem.Challenge.rw_guestsalone_k27_whole_quiet_and_noisy).prog w K mg base 3 (He.ga K "Shares") "free_one" ["self", "ready"] (spFreeOne (He.ga K "Portion") (He.ga K "Shares") Pt) := ⟨_, fd13, ok_freeone T F13 (code_of F13) TB, F13.bindsN fun _ _ _ _ _ _ us hl => match us, hl with | [_, _], _ => rfl, He.meth_ok (c.fact 39 (f := .meth "Shares" "free_one") rfl)⟩
    have G14 : MFn (PySem.Challenge.rw_guestsalone_k27_whole_quiet_and_noisy).prog w K mg base 4 (He.ga K "Shares") "deal" ["self", "ready"] (spDeal (He.ga K "Portion") (He.ga K "Shares") Pt) := ⟨_, fd14, ok_deal T G7 G12 G13 G5 F14, F14.bindsN fun _ _ _ _ _ _ us hl => match us, hl with | [_, _], _ => rfl, He.meth_ok (c.fact 40 (f := .meth "Shares" "deal") rfl)⟩
    have G20 : GFn (PySem.Challenge.rw_guestsalone_k27_whole_quiet_and_noisy).prog w K mg base 1 "_law_cell" ["_law_script", "_law_k"] (spCell K) := ⟨_, fd20, ok_cell T F20, F20.bindsN fun _ _ _ _ _ _ us hl => match us, hl with | [_, _], _ => rfl, He.glo_ok X G (c.fact 50 (f := .glo "_law_cell") rfl), F20.kp⟩
    have G21 : GFn (PySem.Challenge.rw_guestsalone_k27_whole_quiet_and_noisy).prog w K mg base 1 "_law_box" ["_law_cell_here"] spBox := ⟨_, fd21, ok_box T F21, F21.bindsN fun _ _ _ _ _ _ us hl => match us, hl with | [_], _ => rfl, He.glo_ok X G (c.fact 51 (f := .glo "_law_box") rfl), F21.kp⟩
    have G22 : GFn (PySem.Challenge.rw_guestsalone_k27_whole_quiet_and_noisy).prog w K mg base 1 "_law_take" ["_law_box_here", "_law_size"] spTake := ⟨_, fd22, ok_take F22, F22.bindsN fun _ _ _ _ _ _ us hl => match us, hl with | [_, _], _ => rfl, He.glo_ok X G (c.fact 52 (f := .glo "_law_take") rfl), F22.kp⟩
    have G23 : GFn (PySem.Challenge.rw_guestsalone_k27_whole_quiet_and_noisy).prog w K mg base 2 "_law_names" ["_law_box_here", "_law_size"] spNamesL := ⟨_, fd23, ok_namesL T G22 F23, F23.bindsN fun _ _ _ _ _ _ us hl => match us, hl with | [_, _], _ => rfl, He.glo_ok X G (c.fact 53 (f := .glo "_law_names") rfl), F23.kp⟩
    have G24 : GFn (PySem.Challenge.rw_guestsalone_k27_whole_quiet_and_noisy).prog w K mg base 2 "_law_share" ["_law_box_here", "_law_length_here", "_law_free"] spShare := ⟨_, fd24, ok_share T G22 F24, F24.bindsN fun _ _ _ _ _ _ us hl => match us, hl with | [_, _, _], _ => rfl, He.glo_ok X G (c.fact 54 (f := .glo "_law_share") rfl), F24.kp⟩
    have G25 : GFn (PySem.Challenge.rw_guestsalone_k27_whole_quiet_and_noisy).prog w K mg base 4 "_law_others" ["_law_box_here", "_law_shares", "_law_names_here"] (spOthers (He.ga K "Portion") (He.ga K "Shares")) := ⟨_, fd25, ok_others T G22 G24 G16 G15 G18 G17 G10 G11 G9 F25, F25.bindsN fun _ _ _ _ _ _ us hl => match us, hl with | [_, _, _], _ => rfl, He.glo_ok X G (c.fact 55 (f := .glo "_law_others") rfl), F25.kp⟩
    have G26 : GFn (PySem.Challenge.rw_guestsalone_k27_whole_quiet_and_noisy).prog w K mg base 5 "_law_got" ["_law_box_here", "_law_shares", "_law_quiet", "_law_names_here", "_law_noisy"] (spGot (He.ga K "Portion") (He.ga K "Shares") Pt) := ⟨_, fd26, ok_got T G22 G25 G16 G15 G14 F26, F26.bindsN fun _ _ _ _ _ _ us hl => match us, hl with | [_, _, _, _, _], _ => rfl, He.glo_ok X G (c.fact 56 (f := .glo "_law_got") rfl), F26.kp⟩
    have G27 : GFn (PySem.Challenge.rw_guestsalone_k27_whole_quiet_and_noisy).prog w K mg base 1 "_law_gaps" ["_law_length_here", "_law_rows"] spGaps := ⟨_, fd27, ok_gaps T F27, F27.bindsN fun _ _ _ _ _ _ us hl => match us, hl with | [_, _], _ => rfl, He.glo_ok X G (c.fact 57 (f := .glo "_law_gaps") rfl), F27.kp⟩
    have G28 : GFn (PySem.Challenge.rw_guestsalone_k27_whole_quiet_and_noisy).prog w K mg base 6 "_law_kept" ["_law_box_here", "_law_length_here", "_law_share_here", "_law_quiet", "_law_names_here", "_law_noisy"] (spKept Pt) := ⟨_, fd28, ok_kept T G22 G6 G9 G19 G26 G27 F28, F28.bindsN fun _ _ _ _ _ _ us hl => match us, hl with | [_, _, _, _, _, _], _ => rfl, He.glo_ok X G (c.fact 58 (f := .glo "_law_kept") rfl), F28.kp⟩
    exact ok_law T G20 G21 G22 G23 G24 G28 F29
end GA
set_option linter.all false
set_option maxRecDepth 100000
set_option maxHeartbeats 0
open PySem PySem.W PySem.Calls PyProof.Rows
theorem PySem.Challenge.cw_guestsalone_k27_whole_quiet_and_noisy_holds : PySem.Challenge.rw_guestsalone_k27_whole_quiet_and_noisy.Holds := by
  w_on; o_law
  refine HandSHeadRun.head_any (r := OpenLaw.row PySem.Challenge.rw_guestsalone_k27_whole_quiet_and_noisy) (q := view (OpenLaw.row PySem.Challenge.rw_guestsalone_k27_whole_quiet_and_noisy).prog [35]) (H := GA.hk) (ob := GA.ob) (M := 6000) (loose := GA.loose) (d := HandSHeadRun.topDef (OpenLaw.row PySem.Challenge.rw_guestsalone_k27_whole_quiet_and_noisy).prog 35) (kwd := []) GA.ob_eq
    (by kernel_rfl) (fun s => by kernel_rfl) GA.run (by kernel_rfl) (by kernel_rfl) (by kernel_rfl) (by rfl) (by first | assumption | decide +kernel) (by decide +kernel) ⟨rfl, rfl, rfl, rfl, rfl, by decide +kernel⟩ ?hw ?hc
  case hw => w_witness2
  case hc =>
    refine LamX.walk_ofTsE (l := PySem.Challenge.rw_guestsalone_k27_whole_quiet_and_noisy) (n := 63) (k := 7) (x := "_law_script") (CX := fun _ => L2.CX0) rfl (by decide) (by kernel_rfl) ⟨rfl, by decide, by decide⟩ ?F (fun _ _ _ _ _ z => z)
    intro w mg fa h Y G hmg0
    obtain ⟨K, KX, c⟩ := Y
    have hmg : mg ("law" : PySem.Str) = some (.ref fa) := by
      have e : (HandSHeadRun.topDef (OpenLaw.row PySem.Challenge.rw_guestsalone_k27_whole_quiet_and_noisy).prog 35).name = ("law" : PySem.Str) := by kernel_rfl
      rw [← e]
      exact hmg0
    exact ⟨K, KX, GA.facts KX G hmg c⟩
